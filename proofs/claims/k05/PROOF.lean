import PyProof.Rows.All
import Wide.All
import OpenK.AllK
import Wide.FinOn
import HandS.ForMost
import HandS.Exc
import HandS.ExcInit
import HandS.CallSlots
import HandS.Defaults
import HandS.IsInst
import HandS.Property
import HandS.Gcd
import HandS.Wide
import HandS.Flow
import HandS.Style
import HandS.ExcOwn
import HandS.ClsMeth
import HandS.Iter
import HandS.Conv
import HandS.Walk
import HandS.Zip
import HandS.TryOnly
import HandS.OwnEq
import HandS.SlotsOwn
import HandS.Head0
import HandS.Head1
import HandS.Head2
import HandS.HeadEnd
import HandS.HeadHook1
import HandS.HeadHook2
import HandS.Codes
import HandS.Head3
import KE.KOpsOwn
import PySem.Challenge.RW_whosefirst_k05_steps_add_up
set_option Elab.async false
set_option linter.all false
set_option maxRecDepth 100000
set_option maxHeartbeats 0
/-! Trees of values, what stands for them in the abstract heap, and behaviours: total functions that say what a piece of Python does to an environment of trees. -/
namespace Z
open PySem PySem.Spec PyProof.Rows L2

/-- a value as a tree: kl is a list that is not to be changed (the script's, a written one); ob an instance (class number, fields in the order of its layout) -/
inductive D where
  | non | bl (b : Bool) | int (i : Int) | str (x : Str)
  | tup (l : List D) | lst (l : List D) | kl (l : List D) | dic (ks : List Key) (l : List D)
  | ob (c : Nat) (l : List D) | xo (c : Nat) (l : List D)

abbrev Ev := List (Option D)
inductive Out (α : Type) where
  | ok (a : α) (r : Ev) | ex (e : D) (r : Ev) | no
abbrev M (α : Type) := Ev → Out α
@[simp] def Out.bind {α β : Type} (o : Out α) (k : α → Ev → Out β) : Out β := match o with
  | .ok a r => k a r
  | .ex e r => .ex e r
  | .no => .no

/-- the law's text: its written part, classes' addresses, fields, names; whether an instance never changes behind its __init__ -/
structure Gm where
  K : PySem.W.Frag
  cA : Nat → Addr
  lay : Nat → List Str
  imm : Nat → Bool
  flds : List Str

/-- o' is o, or an instance with more fields -/
def Grows (o o' : HO) : Prop := o' = o ∨ ∃ C dx fs more, o = .ins C dx fs ∧ o' = .ins C dx (fs ++ more)
theorem Grows.rfl' {o : HO} : Grows o o := .inl rfl
theorem Grows.trans {a b c : HO} (h : Grows a b) (h' : Grows b c) : Grows a c := by
  rcases h with rfl | ⟨C, dx, fs, more, rfl, rfl⟩
  · exact h'
  · rcases h' with rfl | ⟨C', dx', fs', more', e, rfl⟩
    · exact .inr ⟨_, _, _, _, rfl, rfl⟩
    · injection e with e1 e2 e3
      subst e1 e2 e3
      exact .inr ⟨C, dx, fs, more ++ more', rfl, by rw [List.append_assoc]⟩
theorem Grows.tup {xs : List V} {o : HO} (h : Grows (.tup xs) o) : o = .tup xs := by
  rcases h with rfl | ⟨_, _, _, _, e, _⟩
  · rfl
  · cases e
theorem Grows.lst {xs : List V} {o : HO} (h : Grows (.lst xs) o) : o = .lst xs := by
  rcases h with rfl | ⟨_, _, _, _, e, _⟩
  · rfl
  · cases e
theorem Grows.dK {xs : List (Key × V)} {o : HO} (h : Grows (.dK xs) o) : o = .dK xs := by
  rcases h with rfl | ⟨_, _, _, _, e, _⟩
  · rfl
  · cases e
theorem Grows.frz {ob : Obj} {u o : HO} (h : Grows (.frz ob u) o) : o = .frz ob u := by
  rcases h with rfl | ⟨_, _, _, _, e, _⟩
  · rfl
  · cases e
theorem Grows.xd {fs : List (Str × V)} {o : HO} (h : Grows (.xd fs) o) : o = .xd fs := by
  rcases h with rfl | ⟨_, _, _, _, e, _⟩
  · rfl
  · cases e
theorem Grows.ins {C dx : Addr} {fs : List (Str × V)} {o : HO} (h : Grows (.ins C dx fs) o) : ∃ more, o = .ins C dx (fs ++ more) := by
  rcases h with rfl | ⟨_, _, _, more, e, rfl⟩
  · exact ⟨[], by rw [List.append_nil]⟩
  · injection e with e1 e2 e3
    subst e1 e2 e3
    exact ⟨more, rfl⟩

/-- F is what never changes, of H -/
def Sub (F H : Hp) : Prop := ∀ a o, F a = some o → ∃ o', H a = some o' ∧ Grows o o'
theorem Sub.rfl' {F : Hp} : Sub F F := fun a o h => ⟨o, h, .rfl'⟩
theorem Sub.trans {F G H : Hp} (h : Sub F G) (h' : Sub G H) : Sub F H := fun a o e => by
  obtain ⟨o1, e1, g1⟩ := h a o e
  obtain ⟨o2, e2, g2⟩ := h' a o1 e1
  exact ⟨o2, e2, g1.trans g2⟩
theorem Sub.sqT {K : PySem.W.Frag} {F H : Hp} {a : Addr} {xs : List V} (h : Sub F H) (s : SqT K F a xs) : SqT K H a xs := by
  rcases s with (e | ⟨o, e⟩) | s
  · obtain ⟨o', e', g⟩ := h a _ e
    rw [g.tup] at e'
    exact .inl (.inl e')
  · obtain ⟨o', e', g⟩ := h a _ e
    rw [g.frz] at e'
    exact .inl (.inr ⟨o, e'⟩)
  · exact .inr s
theorem Sub.sqL {K : PySem.W.Frag} {F H : Hp} {a : Addr} {xs : List V} (h : Sub F H) (s : SqL K F a xs) : SqL K H a xs := by
  rcases s with (e | ⟨o, e⟩) | s
  · obtain ⟨o', e', g⟩ := h a _ e
    rw [g.lst] at e'
    exact .inl (.inl e')
  · obtain ⟨o', e', g⟩ := h a _ e
    rw [g.frz] at e'
    exact .inl (.inr ⟨o, e'⟩)
  · exact .inr s

mutual
/-- v stands for the tree, by what never changes -/
inductive Rep (G : Gm) (F : Hp) : D → V → Prop
  | non : Rep G F .non .non
  | bl {b} : Rep G F (.bl b) (.bl b)
  | int {i} : Rep G F (.int i) (.int i)
  | str {x} : Rep G F (.str x) (.str x)
  | tup {l a xs} (h : SqT G.K F a xs) (r : RepL G F l xs) : Rep G F (.tup l) (.ref a)
  | lst {l a xs} (h : F a = some (.lst xs)) (r : RepL G F l xs) : Rep G F (.lst l) (.ref a)
  | kl {l a xs} (h : SqL G.K F a xs) (r : RepL G F l xs) : Rep G F (.kl l) (.ref a)
  | dic {ks l a kvs} (h : F a = some (.dK kvs)) (hk : kvs.map (·.1) = ks) (r : RepL G F l (kvs.map (·.2))) : Rep G F (.dic ks l) (.ref a)
  | ob {c l a dx xs more} (h : F a = some (.ins (G.cA c) dx ((G.lay c).zip xs ++ more))) (hl : xs.length ≤ (G.lay c).length) (r : RepL G F l xs) : Rep G F (.ob c l) (.ref a)
inductive RepL (G : Gm) (F : Hp) : List D → List V → Prop
  | nil : RepL G F [] []
  | cons {d l v xs} (h : Rep G F d v) (t : RepL G F l xs) : RepL G F (d :: l) (v :: xs)
end
section
variable {G : Gm} {F F' H : Hp}
mutual
theorem Rep.mono (s : Sub F F') : ∀ {d : D} {v : V}, Rep G F d v → Rep G F' d v
  | _, _, .non => .non
  | _, _, .bl => .bl
  | _, _, .int => .int
  | _, _, .str => .str
  | _, _, .tup h r => .tup (s.sqT h) (RepL.mono s r)
  | _, _, .lst h r => by
    obtain ⟨o', e', g⟩ := s _ _ h
    rw [g.lst] at e'
    exact .lst e' (RepL.mono s r)
  | _, _, .kl h r => .kl (s.sqL h) (RepL.mono s r)
  | _, _, .dic h hk r => by
    obtain ⟨o', e', g⟩ := s _ _ h
    rw [g.dK] at e'
    exact .dic e' hk (RepL.mono s r)
  | _, _, .ob h hl r => by
    obtain ⟨o', e', g⟩ := s _ _ h
    obtain ⟨m, e⟩ := g.ins
    rw [e, List.append_assoc] at e'
    exact .ob e' hl (RepL.mono s r)
theorem RepL.mono (s : Sub F F') : ∀ {l : List D} {xs : List V}, RepL G F l xs → RepL G F' l xs
  | _, _, .nil => .nil
  | _, _, .cons h t => .cons (Rep.mono s h) (RepL.mono s t)
end
theorem RepL.length : ∀ {l : List D} {xs : List V}, RepL G F l xs → l.length = xs.length
  | _, _, .nil => rfl
  | _, _, .cons _ t => congrArg Nat.succ t.length
theorem RepL.get : ∀ {l : List D} {xs : List V} {i : Nat} {d : D}, RepL G F l xs → l[i]? = some d → ∃ v, xs[i]? = some v ∧ Rep G F d v
  | _, _, _, _, .nil, e => by simp at e
  | _, _, 0, _, .cons h _, e => by simp at e; subst e; exact ⟨_, rfl, h⟩
  | _, _, i + 1, _, .cons _ t, e => by
    obtain ⟨v, h1, h2⟩ := t.get (i := i) (by simpa using e)
    exact ⟨v, by simpa using h1, h2⟩
theorem RepL.get' : ∀ {l : List D} {xs : List V} {i : Nat} {v : V}, RepL G F l xs → xs[i]? = some v → ∃ d, l[i]? = some d ∧ Rep G F d v
  | _, _, _, _, .nil, e => by simp at e
  | _, _, 0, _, .cons h _, e => by simp at e; subst e; exact ⟨_, rfl, h⟩
  | _, _, i + 1, _, .cons _ t, e => by
    obtain ⟨v, h1, h2⟩ := t.get' (i := i) (by simpa using e)
    exact ⟨v, by simpa using h1, h2⟩
theorem RepL.app : ∀ {l l' : List D} {xs xs' : List V}, RepL G F l xs → RepL G F l' xs' → RepL G F (l ++ l') (xs ++ xs')
  | _, _, _, _, .nil, h => h
  | _, _, _, _, .cons r t, h => .cons r (RepL.app t h)
theorem RepL.take : ∀ {l : List D} {xs : List V} (n : Nat), RepL G F l xs → RepL G F (l.take n) (xs.take n)
  | _, _, 0, _ => by simp only [List.take_zero]; exact .nil
  | _, _, _ + 1, .nil => .nil
  | _, _, n + 1, .cons r t => .cons r (t.take n)
theorem RepL.drop : ∀ {l : List D} {xs : List V} (n : Nat), RepL G F l xs → RepL G F (l.drop n) (xs.drop n)
  | _, _, 0, r => r
  | _, _, _ + 1, .nil => .nil
  | _, _, n + 1, .cons _ t => t.drop n
theorem RepL.set {d : D} {v : V} (h : Rep G F d v) : ∀ {l : List D} {xs : List V} (n : Nat), RepL G F l xs → RepL G F (l.set n d) (xs.set n v)
  | _, _, _, .nil => .nil
  | _, _, 0, .cons _ t => .cons h t
  | _, _, n + 1, .cons r t => .cons r (t.set h n)
theorem RepL.ints : ∀ {ns : List Int} {xs : List V}, RepL G F (ns.map D.int) xs → xs = ns.map V.int
  | [], _, .nil => rfl
  | n :: ns, _, .cons h t => by cases h; rw [RepL.ints t]; rfl
theorem RepL.bls : ∀ {ns : List Bool} {xs : List V}, RepL G F (ns.map D.bl) xs → xs = ns.map V.bl
  | [], _, .nil => rfl
  | n :: ns, _, .cons h t => by cases h; rw [RepL.bls t]; rfl
theorem RepL.strs : ∀ {ns : List Str} {xs : List V}, RepL G F (ns.map D.str) xs → xs = ns.map V.str
  | [], _, .nil => rfl
  | n :: ns, _, .cons h t => by cases h; rw [RepL.strs t]; rfl
theorem RepL.ofInts : ∀ (ns : List Int), RepL G F (ns.map D.int) (ns.map V.int)
  | [] => .nil
  | n :: ns => .cons .int (RepL.ofInts ns)
end

theorem zip_pre {α β : Type} : ∀ (l : List α) (xs : List β) (n : Nat), ∃ more, l.zip xs = l.zip (xs.take n) ++ more
  | [], _, _ => ⟨[], rfl⟩
  | _ :: _, [], _ => ⟨[], by simp⟩
  | a :: l, x :: xs, 0 => ⟨(a :: l).zip (x :: xs), by simp⟩
  | a :: l, x :: xs, n + 1 => by
    obtain ⟨m, e⟩ := zip_pre l xs n
    exact ⟨m, by simp [e]⟩

/-- v is an object that this code alone may change: it stands in H for the tree -/
inductive Own (G : Gm) (F H : Hp) : D → V → Prop
  | lst {l a xs} (h : H a = some (.lst xs)) (hf : F a = none) (r : RepL G F l xs) : Own G F H (.lst l) (.ref a)
  | dic {ks l a kvs} (h : H a = some (.dK kvs)) (hf : F a = none) (hk : kvs.map (·.1) = ks) (r : RepL G F l (kvs.map (·.2))) : Own G F H (.dic ks l) (.ref a)
  | ob {c l a dx xs} (h : H a = some (.ins (G.cA c) dx ((G.lay c).zip xs))) (hf : F a = none ∨ (G.imm c = true ∧ ∃ n, F a = some (.ins (G.cA c) dx ((G.lay c).zip (xs.take n)))))
      (hl : xs.length ≤ (G.lay c).length) (r : RepL G F l xs) : Own G F H (.ob c l) (.ref a)
/-- instances have fields of the text alone -/
def Wf (G : Gm) (H : Hp) : Prop := ∀ a C dx fs f, H a = some (.ins C dx fs) → fs.lookup f ≠ none → f ∈ G.flds
def noIns : HO → Bool
  | .ins _ _ _ => false
  | _ => true
theorem Wf.upd {G : Gm} {H : Hp} (w : Wf G H) {p : Addr} {o : HO} (h : noIns o = true) : Wf G (upd H p o) := fun a C dx fs f e => by
  by_cases q : a = p
  · subst q
    rw [upd_same] at e
    cases e
    cases h
  · rw [upd_ne q] at e
    exact w a C dx fs f e
def OwnAt (O : List Nat) (σ : L2.St) (a : Addr) : Prop := ∃ i ∈ O, σ[i]? = some (some (.ref a))

/-- the slots stand for the environment; those of O are owned -/
structure Sta (G : Gm) (O : List Nat) (F H : Hp) (σ : L2.St) (r : Ev) : Prop where
  sub : Sub F H
  wf : Wf G H
  len : r.length = σ.length
  rp : ∀ i d, i ∉ O → r[i]? = some (some d) → ∃ v, σ[i]? = some (some v) ∧ Rep G F d v
  ow : ∀ i ∈ O, ∃ d v, r[i]? = some (some d) ∧ σ[i]? = some (some v) ∧ Own G F H d v
  dj : ∀ i j a, i ∈ O → j ∈ O → σ[i]? = some (some (.ref a)) → σ[j]? = some (some (.ref a)) → i = j

theorem upd_none {H : Hp} {a b : Addr} {o : HO} (h : upd H a o b = none) : H b = none := by
  unfold upd at h
  split at h
  · cases h
  · exact h
/-- from F, H to F', H': only what Mo lets, and new objects, changed -/
structure Stp (Mo : Addr → Prop) (F H F' H' : Hp) : Prop where
  fz : Sub F F'
  kp : ∀ a o, H a = some o → ¬ Mo a → H' a = some o
  nf : ∀ a o, H a = some o → ¬ Mo a → F' a = F a
  tr : ∀ a, H' a = none → H a = none
theorem Stp.rfl' {Mo : Addr → Prop} {F H : Hp} : Stp Mo F H F H := ⟨.rfl', fun _ _ h _ => h, fun _ _ _ _ => rfl, fun _ h => h⟩
theorem Stp.trans {Mo Mo1 : Addr → Prop} {F H F1 H1 F2 H2 : Hp} (a : Stp Mo F H F1 H1) (b : Stp Mo1 F1 H1 F2 H2) (hm : ∀ x, Mo1 x → Mo x ∨ H x = none) : Stp Mo F H F2 H2 where
  fz := a.fz.trans b.fz
  kp := fun x o h n => b.kp x o (a.kp x o h n) fun m => (hm x m).elim n fun e => by rw [e] at h; cases h
  nf := fun x o h n => (b.nf x o (a.kp x o h n) fun m => (hm x m).elim n fun e => by rw [e] at h; cases h).trans (a.nf x o h n)
  tr := fun x h => a.tr x (b.tr x h)
theorem Stp.weak {Mo Mo1 : Addr → Prop} {F H F1 H1 : Hp} (a : Stp Mo F H F1 H1) (hm : ∀ x, Mo x → Mo1 x) : Stp Mo1 F H F1 H1 := ⟨a.fz, fun x o h n => a.kp x o h fun m => n (hm x m), fun x o h n => a.nf x o h fun m => n (hm x m), a.tr⟩

theorem Own.mono {G : Gm} {F H F' H' : Hp} {d : D} {v : V} {Mo : Addr → Prop} (h : Own G F H d v) (s : Stp Mo F H F' H') (n : ∀ a, v = .ref a → ¬ Mo a) : Own G F' H' d v := by
  cases h with
  | lst h hf r => exact .lst (s.kp _ _ h (n _ rfl)) ((s.nf _ _ h (n _ rfl)).trans hf) (r.mono s.fz)
  | dic h hf hk r => exact .dic (s.kp _ _ h (n _ rfl)) ((s.nf _ _ h (n _ rfl)).trans hf) hk (r.mono s.fz)
  | ob h hf hl r =>
    refine .ob (s.kp _ _ h (n _ rfl)) ?_ hl (r.mono s.fz)
    rw [s.nf _ _ h (n _ rfl)]
    exact hf
theorem Own.there {G : Gm} {F H : Hp} {d : D} {v : V} (h : Own G F H d v) : ∃ a o, v = .ref a ∧ H a = some o := by
  cases h with
  | lst h _ _ => exact ⟨_, _, rfl, h⟩
  | dic h _ _ _ => exact ⟨_, _, rfl, h⟩
  | ob h _ _ _ => exact ⟨_, _, rfl, h⟩
/-- an owned object is given up: it never changes from here -/
theorem Own.freeze {G : Gm} {F H : Hp} {d : D} {v : V} (h : Own G F H d v) (sb : Sub F H) : ∃ F' a o, v = .ref a ∧ H a = some o ∧ F' = upd F a o ∧ Sub F F' ∧ Sub F' H ∧ Rep G F' d v := by
  have key : ∀ (a : Addr) (o : HO), H a = some o → (∀ u, F a = some u → Grows u o) → Sub F (upd F a o) ∧ Sub (upd F a o) H := fun a o e g => by
    refine ⟨fun b u hb => ?_, fun b u hb => ?_⟩
    · by_cases q : b = a
      · subst q
        exact ⟨o, upd_same, g u hb⟩
      · exact ⟨u, by rw [upd_ne q]; exact hb, .rfl'⟩
    · by_cases q : b = a
      · subst q
        rw [upd_same] at hb
        cases hb
        exact ⟨o, e, .rfl'⟩
      · rw [upd_ne q] at hb
        exact sb b u hb
  cases h with
  | @lst l a xs h hf r =>
    obtain ⟨k1, k2⟩ := key a _ h fun u e => by rw [hf] at e; cases e
    exact ⟨_, a, _, rfl, h, rfl, k1, k2, .lst upd_same (r.mono k1)⟩
  | @dic ks l a kvs h hf hk r =>
    obtain ⟨k1, k2⟩ := key a _ h fun u e => by rw [hf] at e; cases e
    exact ⟨_, a, _, rfl, h, rfl, k1, k2, .dic upd_same hk (r.mono k1)⟩
  | @ob c l a dx xs h hf hl r =>
    obtain ⟨k1, k2⟩ := key a _ h fun u e => by
      rcases hf with q | ⟨_, n, q⟩
      · rw [q] at e; cases e
      · rw [q] at e
        cases e
        obtain ⟨more, hz⟩ := zip_pre (G.lay c) xs n
        exact .inr ⟨_, _, _, more, rfl, by rw [← hz]⟩
    exact ⟨_, a, _, rfl, h, rfl, k1, k2, .ob (more := []) (by rw [List.append_nil]; exact upd_same) hl (r.mono k1)⟩

section
variable {G : Gm} {O : List Nat} {F H : Hp} {σ : L2.St} {r : Ev}
/-- the owned slots as they stand: their rows alone may have changed -/
theorem Sta.own_at (S : Sta G O F H σ r) {i : Nat} {d : D} (hi : i ∈ O) (e : r[i]? = some (some d)) : ∃ v, σ[i]? = some (some v) ∧ Own G F H d v := by
  obtain ⟨d', v, e1, e2, o⟩ := S.ow i hi
  rw [e] at e1
  cases e1
  exact ⟨v, e2, o⟩
/-- behind something that may change none of the owned -/
theorem Sta.stay {Mo : Addr → Prop} {F' H' : Hp} (S : Sta G O F H σ r) (s : Stp Mo F H F' H') (sb : Sub F' H') (wf : Wf G H') (n : ∀ a, OwnAt O σ a → ¬ Mo a) : Sta G O F' H' σ r where
  sub := sb
  wf := wf
  len := S.len
  rp := fun i d hi e => by
    obtain ⟨v, e1, h⟩ := S.rp i d hi e
    exact ⟨v, e1, h.mono s.fz⟩
  ow := fun i hi => by
    obtain ⟨d, v, e1, e2, o⟩ := S.ow i hi
    exact ⟨d, v, e1, e2, o.mono s fun a ea => n a ⟨i, hi, by rw [e2, ea]⟩⟩
  dj := S.dj
/-- a slot that is owned is given up -/
theorem Sta.freeze (S : Sta G O F H σ r) {i : Nat} {d : D} (hi : i ∈ O) (e : r[i]? = some (some d)) :
    ∃ F' v, σ[i]? = some (some v) ∧ Rep G F' d v ∧ Sta G (O.filter (· != i)) F' H σ r ∧ Stp (OwnAt O σ) F H F' H := by
  obtain ⟨v, e2, o⟩ := S.own_at hi e
  obtain ⟨F', a, ob, rfl, ha, rfl, k1, k2, rp⟩ := o.freeze S.sub
  have mem : ∀ {j}, j ∈ O.filter (· != i) → j ∈ O ∧ j ≠ i := fun {j} hj => by
    obtain ⟨h1, h2⟩ := List.mem_filter.mp hj
    exact ⟨h1, fun z => by simp [z] at h2⟩
  refine ⟨_, _, e2, rp, ⟨k2, S.wf, S.len, fun j dj hj ej => ?_, fun j hj => ?_, fun j k b hj hk => S.dj j k b (mem hj).1 (mem hk).1⟩, ⟨k1, fun b u h _ => h, fun b u h n => ?_, fun _ h => h⟩⟩
  · by_cases q : j = i
    · subst q
      rw [e] at ej
      cases ej
      exact ⟨_, e2, rp⟩
    · obtain ⟨w, ew, hw⟩ := S.rp j dj (fun z => hj (List.mem_filter.mpr ⟨z, by simp [q]⟩)) ej
      exact ⟨w, ew, hw.mono k1⟩
  · obtain ⟨hj, hne⟩ := mem hj
    obtain ⟨dj, w, e1, ew, ow⟩ := S.ow j hj
    refine ⟨dj, w, e1, ew, ?_⟩
    obtain ⟨b, ob', rfl, hb⟩ := ow.there
    have nb : b ≠ a := fun z => hne (S.dj j i a hj hi (by rw [ew, z]) e2)
    cases ow with
    | lst h hf rr => exact .lst h (by rw [upd_ne nb]; exact hf) (rr.mono k1)
    | dic h hf hk rr => exact .dic h (by rw [upd_ne nb]; exact hf) hk (rr.mono k1)
    | ob h hf hl rr => exact .ob h (by rw [upd_ne nb]; exact hf) hl (rr.mono k1)
  · have nb : b ≠ a := fun z => n ⟨i, hi, by rw [e2, z]⟩
    exact upd_ne nb
theorem OwnAt.sub {O O' : List Nat} {a : Addr} (h : ∀ i ∈ O', i ∈ O) (x : OwnAt O' σ a) : OwnAt O σ a := let ⟨i, hi, e⟩ := x; ⟨i, h i hi, e⟩
/-- a new object that never changes -/
theorem new_fz {p : Addr} {o : HO} (S : Sta G O F H σ r) (hp : H p = none) (hi : noIns o = true) : Sta G O (upd F p o) (upd H p o) σ r ∧ Stp (OwnAt O σ) F H (upd F p o) (upd H p o) := by
  have fp : F p = none := by
    cases q : F p with
    | none => rfl
    | some u =>
      obtain ⟨o', e, _⟩ := S.sub p u q
      rw [hp] at e
      cases e
  have s : Stp (fun _ => False) F H (upd F p o) (upd H p o) := ⟨fun a u e => ⟨u, by rw [upd_ne (ne_of_none e fp)]; exact e, .rfl'⟩, fun a u e _ => by rw [upd_ne (ne_of_none e hp)]; exact e, fun a u e _ => upd_ne (ne_of_none e hp), fun a e => upd_none e⟩
  refine ⟨S.stay s (fun a u e => ?_) (S.wf.upd hi) fun _ _ z => z, s.weak fun _ z => z.elim⟩
  by_cases q : a = p
  · subst q
    rw [upd_same] at e
    cases e
    exact ⟨o, upd_same, .rfl'⟩
  · rw [upd_ne q] at e
    obtain ⟨o', e', g⟩ := S.sub a u e
    exact ⟨o', by rw [upd_ne q]; exact e', g⟩
/-- a new object that is to change -/
theorem new_ow {p : Addr} {o : HO} (S : Sta G O F H σ r) (hp : H p = none) (hi : noIns o = true) : Sta G O F (upd H p o) σ r ∧ Stp (OwnAt O σ) F H F (upd H p o) ∧ F p = none := by
  have fp : F p = none := by
    cases q : F p with
    | none => rfl
    | some u =>
      obtain ⟨o', e, _⟩ := S.sub p u q
      rw [hp] at e
      cases e
  have s : Stp (fun _ => False) F H F (upd H p o) := ⟨.rfl', fun a u e _ => by rw [upd_ne (ne_of_none e hp)]; exact e, fun a u e _ => rfl, fun a e => upd_none e⟩
  refine ⟨S.stay s (fun a u e => ?_) (S.wf.upd hi) fun _ _ z => z, s.weak fun _ z => z.elim, fp⟩
  obtain ⟨o', e', g⟩ := S.sub a u e
  exact ⟨o', by rw [upd_ne (ne_of_none e' hp)]; exact e', g⟩
/-- a slot gets a value that never changes -/
theorem Sta.set (S : Sta G O F H σ r) (i : Nat) {d : D} {v : V} (h : Rep G F d v) : Sta G (O.filter (· != i)) F H (σ.set i (some v)) (r.set i (some d)) where
  sub := S.sub
  wf := S.wf
  len := by simp [S.len]
  rp := fun j dj hj e => by
    by_cases q : i = j
    · subst q
      by_cases hl : i < r.length
      · rw [List.getElem?_set_self hl] at e
        cases e
        exact ⟨v, List.getElem?_set_self (by rw [← S.len]; exact hl), h⟩
      · rw [List.getElem?_eq_none (by simp; omega)] at e
        cases e
    · rw [List.getElem?_set_ne q] at e
      rw [List.getElem?_set_ne q]
      exact S.rp j dj (fun z => hj (List.mem_filter.mpr ⟨z, by simp [Ne.symm q]⟩)) e
  ow := fun j hj => by
    obtain ⟨h1, h2⟩ := List.mem_filter.mp hj
    have q : i ≠ j := fun z => by simp [z] at h2
    rw [List.getElem?_set_ne q, List.getElem?_set_ne q]
    exact S.ow j h1
  dj := fun j k a hj hk ej ek => by
    obtain ⟨h1, h2⟩ := List.mem_filter.mp hj
    obtain ⟨h3, h4⟩ := List.mem_filter.mp hk
    have q : i ≠ j := fun z => by simp [z] at h2
    have q' : i ≠ k := fun z => by simp [z] at h4
    rw [List.getElem?_set_ne q] at ej
    rw [List.getElem?_set_ne q'] at ek
    exact S.dj j k a h1 h3 ej ek
/-- a slot gets a value that this code alone may change -/
theorem Sta.setOwn (S : Sta G O F H σ r) (i : Nat) {d : D} {v : V} (h : Own G F H d v) (hi : i < r.length) (hn : ∀ a, v = .ref a → ¬ OwnAt O σ a) : Sta G (i :: O.filter (· != i)) F H (σ.set i (some v)) (r.set i (some d)) where
  sub := S.sub
  wf := S.wf
  len := by simp [S.len]
  rp := fun j dj hj e => by
    have q : i ≠ j := fun z => hj (by rw [z]; exact List.mem_cons_self)
    rw [List.getElem?_set_ne q] at e
    rw [List.getElem?_set_ne q]
    exact S.rp j dj (fun z => hj (List.mem_cons_of_mem _ (List.mem_filter.mpr ⟨z, by simp [Ne.symm q]⟩))) e
  ow := fun j hj => by
    by_cases q : i = j
    · subst q
      exact ⟨d, v, List.getElem?_set_self hi, List.getElem?_set_self (by rw [← S.len]; exact hi), h⟩
    · rcases List.mem_cons.mp hj with z | hj
      · exact absurd z.symm q
      rw [List.getElem?_set_ne q, List.getElem?_set_ne q]
      exact S.ow j (List.mem_filter.mp hj).1
  dj := fun j k a hj hk ej ek => by
    have at_ : ∀ m, m ∈ i :: O.filter (· != i) → i ≠ m → m ∈ O := fun m hm q => by
      rcases List.mem_cons.mp hm with z | hm
      · exact absurd z.symm q
      · exact (List.mem_filter.mp hm).1
    have hl : i < σ.length := by rw [← S.len]; exact hi
    by_cases q : i = j
    · by_cases q' : i = k
      · exact q.symm.trans q'
      · subst q
        rw [List.getElem?_set_self hl] at ej
        rw [List.getElem?_set_ne q'] at ek
        exact absurd ⟨k, at_ k hk q', ek⟩ (hn a (by cases ej; rfl))
    · by_cases q' : i = k
      · subst q'
        rw [List.getElem?_set_self hl] at ek
        rw [List.getElem?_set_ne q] at ej
        exact absurd ⟨j, at_ j hj q, ej⟩ (hn a (by cases ek; rfl))
      · rw [List.getElem?_set_ne q] at ej
        rw [List.getElem?_set_ne q'] at ek
        exact S.dj j k a (at_ j hj q) (at_ k hk q') ej ek
end

/-- a step of the walk: from slots σ, F, H to σ', F', H', the environment r' -/
structure Nx (G : Gm) (OX O O' : List Nat) (σ : L2.St) (F H : Hp) (σ' : L2.St) (F' H' : Hp) (r' : Ev) : Prop where
  sta : Sta G O' F' H' σ' r'
  stp : Stp (OwnAt O σ) F H F' H'
  kp : ∀ i ∈ OX, σ'[i]? = σ[i]?
  pv : ∀ a, OwnAt O' σ' a → OwnAt O σ a ∨ H a = none
section
variable {G : Gm} {OX O O1 O2 O' : List Nat} {σ σ1 σ2 : L2.St} {F H F1 H1 F2 H2 : Hp} {r r1 r2 : Ev}
theorem Nx.rfl' (S : Sta G O F H σ r) : Nx G OX O O σ F H σ F H r := ⟨S, .rfl', fun _ _ => rfl, fun _ h => .inl h⟩
theorem Nx.trans (a : Nx G OX O O1 σ F H σ1 F1 H1 r1) (b : Nx G OX O1 O2 σ1 F1 H1 σ2 F2 H2 r2) : Nx G OX O O2 σ F H σ2 F2 H2 r2 where
  sta := b.sta
  stp := a.stp.trans b.stp a.pv
  kp := fun i hi => (b.kp i hi).trans (a.kp i hi)
  pv := fun x h => by
    rcases b.pv x h with q | q
    · exact a.pv x q
    · by_cases m : OwnAt O σ x
      · exact .inl m
      · cases e : H x with
        | none => exact .inr rfl
        | some o => rw [a.stp.kp x o e m] at q; cases q
/-- owned slots are given up, all but some -/
theorem Sta.freezeTo (OX : List Nat) : ∀ (n : Nat) {O : List Nat} {F : Hp}, (O.filter fun i => !OX.contains i).length = n → (∀ i ∈ OX, i ∈ O) → Sta G O F H σ r → ∃ F', Sta G OX F' H σ r ∧ Stp (OwnAt O σ) F H F' H := by
  intro n
  induction n using Nat.strongRecOn with
  | _ n ih =>
    intro O F hn hx S
    cases q : O.filter fun i => !OX.contains i with
    | nil =>
      have sub : ∀ i ∈ O, i ∈ OX := fun i hi => by
        by_cases m : i ∈ OX
        · exact m
        · have : i ∈ O.filter fun i => !OX.contains i := List.mem_filter.mpr ⟨hi, by simp [m]⟩
          rw [q] at this
          cases this
      exact ⟨F, ⟨S.sub, S.wf, S.len, fun i d hi => S.rp i d fun z => hi (sub i z), fun i hi => S.ow i (hx i hi), fun i j a hi hj => S.dj i j a (hx i hi) (hx j hj)⟩, .rfl'⟩
    | cons i l =>
      have hi : i ∈ O.filter fun i => !OX.contains i := by rw [q]; exact List.mem_cons_self
      obtain ⟨h1, h2⟩ := List.mem_filter.mp hi
      have hni : i ∉ OX := by simpa using h2
      obtain ⟨d, v, e1, _, _⟩ := S.ow i h1
      obtain ⟨F1, v', _, _, S1, s1⟩ := S.freeze h1 e1
      have hlt : ((O.filter (· != i)).filter fun i => !OX.contains i).length < n := by
        rw [← hn, List.filter_filter]
        refine Nat.lt_of_lt_of_le ?_ (Nat.le_refl _)
        have : (O.filter fun a => (!OX.contains a) && (a != i)) = (O.filter fun a => !OX.contains a).filter (· != i) := by
          rw [List.filter_filter]
          congr 1
          funext a
          exact Bool.and_comm _ _
        rw [this]
        exact List.length_filter_lt_length_iff_exists.mpr ⟨i, hi, by simp⟩
      obtain ⟨F2, S2, s2⟩ := ih _ hlt rfl (fun j hj => List.mem_filter.mpr ⟨hx j hj, by simp; exact fun z => hni (z ▸ hj)⟩) S1
      exact ⟨F2, S2, s1.trans s2 fun x m => .inl (m.sub fun j hj => (List.mem_filter.mp hj).1)⟩
theorem Nx.freeze (a : Nx G OX O O1 σ F H σ1 F1 H1 r1) {OY : List Nat} (hx : ∀ i ∈ OY, i ∈ O1) : ∃ F2, Nx G OX O OY σ F H σ1 F2 H1 r1 ∧ Sub F1 F2 := by
  obtain ⟨F2, S2, s2⟩ := Sta.freezeTo OY _ rfl hx a.sta
  exact ⟨F2, a.trans ⟨S2, s2, fun _ _ => rfl, fun x m => .inl (m.sub hx)⟩, s2.fz⟩
/-- an expression's step leaves the slots -/
theorem Nx.of (S : Sta G O1 F1 H1 σ r1) (s : Stp (OwnAt O σ) F H F1 H1) (h : ∀ i ∈ O1, i ∈ O) : Nx G OX O O1 σ F H σ F1 H1 r1 := ⟨S, s, fun _ _ => rfl, fun _ m => .inl (m.sub h)⟩
end

/-- an exception as it flies: its class, its own dict -/
inductive XRep (G : Gm) (F : Hp) : D → Value → Option Addr → Prop
  | mk {c l d fs} (h : F d = some (.xd fs)) (hl : l.length = (G.lay c).length) (r : ∀ (i : Nat) (f : Str) (x : D), (G.lay c)[i]? = some f → l[i]? = some x → ∃ v, fs.lookup f = some v ∧ Rep G F x v) : XRep G F (.xo c l) (.ref (G.cA c)) (some d)
  | bare {c} : XRep G F (.xo c []) (.ref (G.cA c)) none
theorem XRep.mono {G : Gm} {F F' : Hp} {e : D} {c : Value} {dx : Option Addr} (h : XRep G F e c dx) (s : Sub F F') : XRep G F' e c dx := by
  cases h with
  | mk h hl r =>
    obtain ⟨o', e', g⟩ := s _ _ h
    rw [g.xd] at e'
    exact .mk e' hl fun i f x a b => by
      obtain ⟨v, h1, h2⟩ := r i f x a b
      exact ⟨v, h1, h2.mono s⟩
  | bare => exact .bare

/-- what is wanted behind an expression (a test, arguments), by its outcome -/
def Pst {α β : Type} (G : Gm) (W : WX) (OX O O' : List Nat) (σ : L2.St) (F H : Hp) (Rl : Hp → Hp → α → β → Prop) (Q : β → Hp → Prop) : Out α → Prop
  | .ok a r' => ∀ b F' H', Nx G OX O O' σ F H σ F' H' r' → Rl F' H' a b → Q b H'
  | .ex e r' => ∀ c dx F' H', Nx G OX O OX σ F H σ F' H' r' → XRep G F' e c dx → W c dx σ H'
  | .no => False
def tX {α β : Type} (G : Gm) (W : WX) (OX O O' : List Nat) (Rl : Hp → Hp → α → β → Prop) (f : M α) : L2.St → Hp → (β → Hp → Prop) → Prop := fun σ H Q => ∃ F r, Sta G O F H σ r ∧ Pst G W OX O O' σ F H Rl Q (f r)
abbrev RD (G : Gm) : Hp → Hp → D → V → Prop := fun F _ d v => Rep G F d v
abbrev RB : Hp → Hp → Bool → Bool → Prop := fun _ _ a b => a = b
abbrev RS (G : Gm) : Hp → Hp → List D → List V → Prop := fun F _ d v => RepL G F d v
/-- .. or this code's own -/
abbrev RP (G : Gm) : Hp → Hp → D → V → Prop := fun F H d v => Rep G F d v ∨ Own G F H d v
/-- a new object, this code's own -/
abbrev RF (G : Gm) (O : List Nat) (σ : L2.St) (H0 : Hp) : Hp → Hp → D → V → Prop := fun F H d v => Own G F H d v ∧ ∀ a, v = .ref a → H0 a = none ∧ ¬ OwnAt O σ a
abbrev tE (G : Gm) (W : WX) (OX O O' : List Nat) (f : M D) : TE := tX G W OX O O' (RD G) f
abbrev tP (G : Gm) (W : WX) (OX O O' : List Nat) (f : M D) : TE := tX G W OX O O' (RP G) f
def tF (G : Gm) (W : WX) (OX O O' : List Nat) (f : M D) : TE := fun σ H Q => tX G W OX O O' (RF G O' σ H) f σ H Q
abbrev tT (G : Gm) (W : WX) (OX O O' : List Nat) (f : M Bool) : TT := tX G W OX O O' RB f
abbrev tA (G : Gm) (W : WX) (OX O O' : List Nat) (f : M (List D)) : TA := tX G W OX O O' (RS G) f
/-- one behind another -/
theorem Pst.bind {α β γ δ : Type} {G : Gm} {W : WX} {OX O O1 O2 : List Nat} {σ : L2.St} {F H : Hp} {Rl : Hp → Hp → α → β → Prop} {Rl' : Hp → Hp → γ → δ → Prop} {o : Out α} {k : α → M γ} {Q' : δ → Hp → Prop} (p : Pst G W OX O O2 σ F H Rl' Q' (o.bind k)) :
    Pst G W OX O O1 σ F H Rl (fun b H1 => ∃ a F1 r1, Nx G OX O O1 σ F H σ F1 H1 r1 ∧ Rl F1 H1 a b ∧ Pst G W OX O1 O2 σ F1 H1 Rl' Q' (k a r1)) o := by
  revert p
  cases o with
  | no => exact fun p => p
  | ex e r' => exact fun p => p
  | ok a r1 =>
    intro p b F1 H1 n1 rl
    have p : Pst G W OX O O2 σ F H Rl' Q' (k a r1) := p
    refine ⟨a, F1, r1, n1, rl, ?_⟩
    revert p
    cases k a r1 with
    | no => exact fun p => p
    | ex e r' => exact fun p c dx F' H' n x => p c dx F' H' (n1.trans n) x
    | ok a' r' => exact fun p b' F' H' n x => p b' F' H' (n1.trans n) x
theorem Pst.mono {α β : Type} {G : Gm} {W : WX} {OX O O1 : List Nat} {σ : L2.St} {F H : Hp} {Rl : Hp → Hp → α → β → Prop} {o : Out α} {Q Q' : β → Hp → Prop} (p : Pst G W OX O O1 σ F H Rl Q o) (h : ∀ b H, Q b H → Q' b H) : Pst G W OX O O1 σ F H Rl Q' o := by
  revert p
  cases o with
  | no => exact fun p => p
  | ex e r' => exact fun p => p
  | ok a r1 => exact fun p b F1 H1 n rl => h b H1 (p b F1 H1 n rl)
theorem tX_bind {α β γ δ : Type} {G : Gm} {W : WX} {OX O O1 O2 : List Nat} {σ : L2.St} {F H : Hp} {r : Ev} {Rl : Hp → Hp → α → β → Prop} {Rl' : Hp → Hp → γ → δ → Prop} {f : M α} {k : α → M γ} {Q : β → Hp → Prop} {Q' : δ → Hp → Prop}
    (S : Sta G O F H σ r) (p : Pst G W OX O O2 σ F H Rl' Q' ((f r).bind k))
    (hk : ∀ (a : α) (b : β) (F1 H1 : Hp) (r1 : Ev), Nx G OX O O1 σ F H σ F1 H1 r1 → Rl F1 H1 a b → Pst G W OX O1 O2 σ F1 H1 Rl' Q' (k a r1) → Q b H1) : tX G W OX O O1 Rl f σ H Q :=
  ⟨F, r, S, p.bind.mono fun b H1 ⟨a, F1, r1, n, rl, p⟩ => hk a b F1 H1 r1 n rl p⟩
theorem _root_.L2.PE.imp {X : Cx} {e : Expr} {t t' : TE} (h : PE X e t) (i : ∀ σ H Q, t' σ H Q → t σ H Q) : PE X e t' := ⟨fun pins s σ H Q I q => h.run pins s σ H Q I (i σ H Q q)⟩
theorem _root_.L2.PT.imp {X : Cx} {e : Expr} {t t' : TT} (h : PT X e t) (i : ∀ σ H Q, t' σ H Q → t σ H Q) : PT X e t' := ⟨fun pins s σ H Q I q => h.run pins s σ H Q I (i σ H Q q)⟩
theorem _root_.L2.PA.imp {X : Cx} {e : List Expr} {t t' : TA} (h : PA X e t) (i : ∀ σ H Q, t' σ H Q → t σ H Q) : PA X e t' := ⟨fun pos pins s σ H Q I q => h.run pos pins s σ H Q I (i σ H Q q)⟩
theorem _root_.L2.PS.imp {X : Cx} {e : Stmt} {t t' : TS} (h : PS X e t) (i : ∀ D σ H, t' D σ H → t D σ H) : PS X e t' := ⟨fun pins s σ H D I q => h.run pins s σ H D I (i D σ H q)⟩
theorem _root_.L2.PSs.imp {X : Cx} {e : List Stmt} {t t' : TS} (h : PSs X e t) (i : ∀ D σ H, t' D σ H → t D σ H) : PSs X e t' := ⟨fun pins s σ H D I q => h.run pins s σ H D I (i D σ H q)⟩
end Z

/-! Expressions: names, constants, tests, operators on plain values. -/
namespace Z
open PySem PySem.Spec PyProof.Rows L2

/-! ### behaviours -/
@[simp] def eV (i : Nat) : M D := fun r => match r[i]? with
  | some (some d) => .ok d r
  | _ => .no
@[simp] def eS (imm : Nat → Bool) (i : Nat) : M D := fun r => match r[i]? with
  | some (some (.ob c l)) => if imm c then .ok (.ob c l) r else .no
  | _ => .no
@[simp] def eK (d : D) : M D := fun r => .ok d r
@[simp] def eAnd (f g : M D) : M D := fun r => (f r).bind fun x r1 => match x with
  | .bl true => g r1
  | .bl false => .ok (.bl false) r1
  | _ => .no
@[simp] def eOr (f g : M D) : M D := fun r => (f r).bind fun x r1 => match x with
  | .bl true => .ok (.bl true) r1
  | .bl false => g r1
  | _ => .no
@[simp] def eNot (f : M D) : M D := fun r => (f r).bind fun x r1 => match x with
  | .bl b => .ok (.bl (!b)) r1
  | _ => .no
@[simp] def eIf (t : M Bool) (f g : M D) : M D := fun r => (t r).bind fun b r1 => if b then f r1 else g r1
@[simp] def tV (f : M D) : M Bool := fun r => (f r).bind fun x r1 => match x with
  | .bl b => .ok b r1
  | _ => .no
@[simp] def tAn (f g : M Bool) : M Bool := fun r => (f r).bind fun b r1 => if b then g r1 else .ok false r1
@[simp] def tOn (f g : M Bool) : M Bool := fun r => (f r).bind fun b r1 => if b then .ok true r1 else g r1
@[simp] def tNo (f : M Bool) : M Bool := fun r => (f r).bind fun b r1 => .ok (!b) r1
@[simp] def D.isNon : D → Bool
  | .non => true
  | _ => false
@[simp] def eIsN (f : M D) : M D := fun r => (f r).bind fun x r1 => .ok (.bl x.isNon) r1
@[simp] def eNotN (f : M D) : M D := fun r => (f r).bind fun x r1 => .ok (.bl (!x.isNon)) r1
@[simp] def aNil : M (List D) := fun r => .ok [] r
@[simp] def aCons (f : M D) (g : M (List D)) : M (List D) := fun r => (f r).bind fun x r1 => (g r1).bind fun xs r2 => .ok (x :: xs) r2
/-- a plain operation of two values -/
@[simp] def liftO (o : Option D) (r : Ev) : Out D := match o with
  | some d => .ok d r
  | none => .no
@[simp] def eB (o : D → D → Ev → Out D) (f g : M D) : M D := fun r => (f r).bind fun x r1 => (g r1).bind fun y r2 => o x y r2
@[simp] def eU (o : D → Ev → Out D) (f : M D) : M D := fun r => (f r).bind fun x r1 => o x r1
/-- a op b op' c, b asked once -/
@[simp] def onBl {α : Type} (z : D) (k : Bool → Out α) : Out α := match z with
  | .bl b => k b
  | _ => .no
@[simp] def eChain (o o' : D → D → Ev → Out D) (f g h : M D) : M D := fun r => (f r).bind fun x r1 => (g r1).bind fun y r2 => (o x y r2).bind fun z r3 => onBl z fun b => if b then (h r3).bind fun w r4 => o' y w r4 else .ok (.bl false) r3

section
variable {G : Gm} {X : Cx} {W : WX} {OX O O1 O2 O3 : List Nat}

theorem Pst.ok {α β : Type} {σ : L2.St} {F H : Hp} {r : Ev} {Rl : Hp → Hp → α → β → Prop} {Q : β → Hp → Prop} {a : α} {b : β} (S : Sta G O F H σ r) (rl : Rl F H a b) (p : Pst G W OX O O σ F H Rl Q (.ok a r)) : Q b H := p b F H (Nx.rfl' S) rl

/-! ### names -/
theorem e_var {x : Str} {pos : Pos} (i : Nat) (hi : i ∉ O := by decide) (hN : X.N[i]? = some x := by rfl) (hv : Vis X.env.scope x := by first | exact Or.inl rfl | exact Or.inr (Or.inl rfl) | exact Or.inr (Or.inr rfl))
    (hd : (x == ("__debug__" : Str)) = false := by decide) (hcd : (x == ("__classdict__" : Str)) = false := by decide) : PE X (.Name x pos) (tE G W OX O O (eV i)) :=
  (pe_var hN hv hd hcd).imp fun σ H Q ⟨F, r, S, p⟩ => by
    simp only [eV] at p
    revert p
    split
    · rename_i d e
      intro p
      obtain ⟨v, e1, h⟩ := S.rp i d hi e
      exact ⟨v, e1, p.ok S h⟩
    · exact fun p => p.elim
theorem e_varF {x : Str} {pos : Pos} (i : Nat) (hi : i ∈ O := by decide) (hN : X.N[i]? = some x := by rfl) (hv : Vis X.env.scope x := by first | exact Or.inl rfl | exact Or.inr (Or.inl rfl) | exact Or.inr (Or.inr rfl))
    (hd : (x == ("__debug__" : Str)) = false := by decide) (hcd : (x == ("__classdict__" : Str)) = false := by decide) : PE X (.Name x pos) (tE G W OX O (O.filter (· != i)) (eV i)) :=
  (pe_var hN hv hd hcd).imp fun σ H Q ⟨F, r, S, p⟩ => by
    simp only [eV] at p
    revert p
    split
    · rename_i d e
      intro p
      obtain ⟨F', v, e1, h, S', s'⟩ := S.freeze hi e
      exact ⟨v, e1, p v F' H (Nx.of S' s' fun j hj => (List.mem_filter.mp hj).1) h⟩
    · exact fun p => p.elim
/-- an object that its __init__ is making, as a value -/
theorem e_self {x : Str} {pos : Pos} (i : Nat) (hi : i ∈ O := by decide) (hN : X.N[i]? = some x := by rfl) (hv : Vis X.env.scope x := by first | exact Or.inl rfl | exact Or.inr (Or.inl rfl) | exact Or.inr (Or.inr rfl))
    (hd : (x == ("__debug__" : Str)) = false := by decide) (hcd : (x == ("__classdict__" : Str)) = false := by decide) : PE X (.Name x pos) (tE G W OX O O (eS G.imm i)) :=
  (pe_var hN hv hd hcd).imp fun σ H Q ⟨F, r, S, p⟩ => by
    simp only [eS] at p
    revert p
    split
    · rename_i c l e
      split
      · rename_i him
        intro p
        obtain ⟨v, e1, o⟩ := S.own_at hi e
        obtain ⟨F', a, ob, rfl, ha, rfl, k1, k2, rp⟩ := o.freeze S.sub
        have nb : ∀ {b}, ¬ OwnAt O σ b → b ≠ a := fun {b} n z => n ⟨i, hi, by rw [e1, z]⟩
        have st : Stp (OwnAt O σ) F H (upd F a ob) H := ⟨k1, fun _ _ h _ => h, fun b u h n => upd_ne (nb n), fun _ h => h⟩
        refine ⟨_, e1, p _ (upd F a ob) H (Nx.of ⟨k2, S.wf, S.len, fun j dj hj ej => ?_, fun j hj => ?_, S.dj⟩ st fun j hj => hj) rp⟩
        · obtain ⟨w, ew, hw⟩ := S.rp j dj hj ej
          exact ⟨w, ew, hw.mono k1⟩
        · by_cases q : j = i
          · subst q
            refine ⟨_, _, e, e1, ?_⟩
            cases o with
            | @ob _ _ _ dx xs h hf hl rr =>
              have eo : ob = HO.ins (G.cA c) dx ((G.lay c).zip xs) := by
                rw [ha] at h
                exact Option.some.inj h
              subst eo
              exact .ob h (.inr ⟨him, xs.length, by rw [List.take_length]; exact upd_same⟩) hl (rr.mono k1)
          · obtain ⟨dj, w, e1', ew, ow⟩ := S.ow j hj
            refine ⟨dj, w, e1', ew, ?_⟩
            obtain ⟨b, ob', rfl, hb⟩ := ow.there
            have nb : b ≠ a := fun z => q (S.dj j i a hj hi (by rw [ew, z]) e1)
            cases ow with
            | lst h hf rr => exact .lst h (by rw [upd_ne nb]; exact hf) (rr.mono k1)
            | dic h hf hk rr => exact .dic h (by rw [upd_ne nb]; exact hf) hk (rr.mono k1)
            | ob h hf hl rr => exact .ob h (by rw [upd_ne nb]; exact hf) hl (rr.mono k1)
      · exact fun p => p.elim
    · exact fun p => p.elim

/-! ### constants -/
theorem e_of {e : Expr} {v : V} {d : D} (h : PE X e (tC v)) (hr : ∀ F, Rep G F d v) : PE X e (tE G W OX O O (eK d)) := h.imp fun σ H Q ⟨F, r, S, p⟩ => p.ok S (hr F)
theorem e_int {i : Int} {j pos} : PE X (.Constant (.int i) j pos) (tE G W OX O O (eK (.int i))) := e_of pe_int fun _ => .int
theorem e_bl {b j pos} : PE X (.Constant (.bool b) j pos) (tE G W OX O O (eK (.bl b))) := e_of pe_bl fun _ => .bl
theorem e_non {j pos} : PE X (.Constant .none j pos) (tE G W OX O O (eK .non)) := e_of pe_non fun _ => .non
theorem e_str {x j pos} : PE X (.Constant (.str x) j pos) (tE G W OX O O (eK (.str x))) := e_of pe_str fun _ => .str

/-! ### two in a row -/
theorem e_and {a b : Expr} {rest : List Expr} {pos : Pos} {f g : M D} (ha : PE X a (tE G W OX O O1 f)) (hb : PE X (.BoolOp .And (b :: rest) pos) (tE G W OX O1 O1 g)) : PE X (.BoolOp .And (a :: b :: rest) pos) (tE G W OX O O1 (eAnd f g)) :=
  (pe_and ha hb).imp fun σ H Q ⟨F, r, S, p⟩ => tX_bind S p fun x v F1 H1 r1 n1 rx p => by
    revert p
    split
    · intro p
      cases rx
      exact ⟨true, rfl, by rw [if_pos rfl]; exact ⟨F1, r1, n1.sta, p⟩⟩
    · intro p
      cases rx
      exact ⟨false, rfl, by rw [if_neg (by decide)]; exact p.ok n1.sta .bl⟩
    · exact fun p => p.elim
theorem e_or {a b : Expr} {rest : List Expr} {pos : Pos} {f g : M D} (ha : PE X a (tE G W OX O O1 f)) (hb : PE X (.BoolOp .Or (b :: rest) pos) (tE G W OX O1 O1 g)) : PE X (.BoolOp .Or (a :: b :: rest) pos) (tE G W OX O O1 (eOr f g)) :=
  (pe_or ha hb).imp fun σ H Q ⟨F, r, S, p⟩ => tX_bind S p fun x v F1 H1 r1 n1 rx p => by
    revert p
    split
    · intro p
      cases rx
      exact ⟨true, rfl, by rw [if_pos rfl]; exact p.ok n1.sta .bl⟩
    · intro p
      cases rx
      exact ⟨false, rfl, by rw [if_neg (by decide)]; exact ⟨F1, r1, n1.sta, p⟩⟩
    · exact fun p => p.elim
theorem e_not {a : Expr} {pos : Pos} {f : M D} (ha : PE X a (tE G W OX O O1 f)) : PE X (.UnaryOp .Not a pos) (tE G W OX O O1 (eNot f)) :=
  (pe_not ha).imp fun σ H Q ⟨F, r, S, p⟩ => tX_bind S p fun x v F1 H1 r1 n1 rx p => by
    revert p
    split
    · intro p
      cases rx
      exact ⟨_, rfl, p.ok n1.sta .bl⟩
    · exact fun p => p.elim
theorem e_if {c a b : Expr} {pos : Pos} {t : M Bool} {f g : M D} (hc : PT X c (tT G W OX O O1 t)) (ha : PE X a (tE G W OX O1 O2 f)) (hb : PE X b (tE G W OX O1 O2 g)) : PE X (.IfExp c a b pos) (tE G W OX O O2 (eIf t f g)) :=
  (pe_ifExp hc ha hb).imp fun σ H Q ⟨F, r, S, p⟩ => tX_bind S p fun x v F1 H1 r1 n1 rx p => by
    subst rx
    cases x with
    | true => exact ⟨F1, r1, n1.sta, p⟩
    | false => exact ⟨F1, r1, n1.sta, p⟩
/-! ### tests -/
theorem t_val {e : Expr} {f : M D} (h : PE X e (tE G W OX O O1 f)) (he : ∀ whole, isTrue e X.env whole = (do let v ← whole; standAt e.pos; holding [v] (truthy v)) := by intro _; rfl) : PT X e (tT G W OX O O1 (tV f)) :=
  (pt_val h he).imp fun σ H Q ⟨F, r, S, p⟩ => tX_bind S p fun x v F1 H1 r1 n1 rx p => by
    revert p
    split
    · intro p
      cases rx
      exact ⟨_, rfl, p.ok n1.sta rfl⟩
    · exact fun p => p.elim
structure PWt (X : Cx) (e : Expr) (t : TT) : Prop where
  w : PW X e t
theorem w_and1 {a : Expr} {pos : Pos} {t : TT} (h : PT X a t) : PWt X (.BoolOp .And [a] pos) t := ⟨pw_and1 h⟩
theorem w_or1 {a : Expr} {pos : Pos} {t : TT} (h : PT X a t) : PWt X (.BoolOp .Or [a] pos) t := ⟨pw_or1 h⟩
theorem _root_.L2.PW.imp {X : Cx} {e : Expr} {t t' : TT} (h : PW X e t) (i : ∀ σ H Q, t' σ H Q → t σ H Q) : PW X e t' := ⟨fun wh pins s σ H Q I q => h.run wh pins s σ H Q I (i σ H Q q)⟩
theorem w_and {a b : Expr} {rest : List Expr} {pos : Pos} {f g : M Bool} (ha : PT X a (tT G W OX O O1 f)) (hb : PWt X (.BoolOp .And (b :: rest) pos) (tT G W OX O1 O1 g)) : PWt X (.BoolOp .And (a :: b :: rest) pos) (tT G W OX O O1 (tAn f g)) :=
  ⟨(pw_and ha hb.w).imp fun σ H Q ⟨F, r, S, p⟩ => tX_bind S p fun x v F1 H1 r1 n1 rx p => by
    subst rx
    cases x with
    | true => exact ⟨F1, r1, n1.sta, p⟩
    | false => exact p.ok n1.sta rfl⟩
theorem w_or {a b : Expr} {rest : List Expr} {pos : Pos} {f g : M Bool} (ha : PT X a (tT G W OX O O1 f)) (hb : PWt X (.BoolOp .Or (b :: rest) pos) (tT G W OX O1 O1 g)) : PWt X (.BoolOp .Or (a :: b :: rest) pos) (tT G W OX O O1 (tOn f g)) :=
  ⟨(pw_or ha hb.w).imp fun σ H Q ⟨F, r, S, p⟩ => tX_bind S p fun x v F1 H1 r1 n1 rx p => by
    subst rx
    cases x with
    | true => exact p.ok n1.sta rfl
    | false => exact ⟨F1, r1, n1.sta, p⟩⟩
theorem t_bo {e : Expr} {t : TT} (h : PWt X e t) : PT X e t := h.w.pt
theorem t_not {a : Expr} {pos : Pos} {f : M Bool} (ha : PT X a (tT G W OX O O1 f)) : PT X (.UnaryOp .Not a pos) (tT G W OX O O1 (tNo f)) :=
  (pt_not ha).imp fun σ H Q ⟨F, r, S, p⟩ => tX_bind S p fun x v F1 H1 r1 n1 rx p => by
    subst rx
    exact p.ok n1.sta rfl
/-! ### is None -/
theorem Rep.isN {F : Hp} {x : D} {v : V} (h : Rep G F x v) : decide (v = V.non) = x.isNon := by cases h <;> rfl
theorem e_isN {a : Expr} {j pos pos'} {f : M D} (ha : PE X a (tE G W OX O O1 f)) : PE X (.Compare a [.Is] [.Constant .none j pos'] pos) (tE G W OX O O1 (eIsN f)) :=
  (pe_cmp (pc_isN ha) rfl).imp fun σ H Q ⟨F, r, S, p⟩ => tX_bind S p fun x v F1 H1 r1 n1 rx p => by
    rw [rx.isN]
    exact p.ok n1.sta .bl
theorem e_notN {a : Expr} {j pos pos'} {f : M D} (ha : PE X a (tE G W OX O O1 f)) : PE X (.Compare a [.IsNot] [.Constant .none j pos'] pos) (tE G W OX O O1 (eNotN f)) :=
  (pe_cmp (pc_notN ha) rfl).imp fun σ H Q ⟨F, r, S, p⟩ => tX_bind S p fun x v F1 H1 r1 n1 rx p => by
    rw [rx.isN]
    exact p.ok n1.sta .bl
/-! ### arguments -/
theorem a_nil : PA X [] (tA G W OX O O aNil) := pa_nil.imp fun σ H Q ⟨F, r, S, p⟩ => p.ok S .nil
theorem a_cons {e : Expr} {es : List Expr} {f : M D} {g : M (List D)} (ha : PE X e (tE G W OX O O1 f)) (hr : PA X es (tA G W OX O1 O2 g)) (hs : starEach (e :: es) X.env = (false, eval e X.env) :: starEach es X.env := by rfl) :
    PA X (e :: es) (tA G W OX O O2 (aCons f g)) :=
  (pa_cons ha hr hs).imp fun σ H Q ⟨F, r, S, p⟩ => tX_bind S p fun x v F1 H1 r1 n1 rx p => tX_bind n1.sta p fun xs vs F2 H2 r2 n2 rxs p2 =>
    p2.ok n2.sta (.cons (rx.mono n2.stp.fz) rxs)

/-! ### operators of two values, by what they do to trees -/
/-- f does to values what o does to trees -/
def Op2 (G : Gm) (X : Cx) (W : WX) (OX O : List Nat) (f : Value → Value → Sem Value) (o : D → D → Ev → Out D) : Prop :=
  ∀ (pins : List (Addr × Obj)) (s : Shared) (σ : L2.St) (F H : Hp) (r : Ev) (x y : D) (v w : V) (u u' : Value) (Q : VK), Inv X pins σ H s → Sta G O F H σ r → Rep G F x v → Rep G F y w → RelV v u → RelV w u' →
    Pst G W OX O O σ F H (RD G) Q (o x y r) → wpAny (model X.prog X.w) X.A (f u u') (EP X pins σ Q) X.xe s
def Op1 (G : Gm) (X : Cx) (W : WX) (OX O : List Nat) (f : Value → Sem Value) (o : D → Ev → Out D) : Prop :=
  ∀ (pins : List (Addr × Obj)) (s : Shared) (σ : L2.St) (F H : Hp) (r : Ev) (x : D) (v : V) (u : Value) (Q : VK), Inv X pins σ H s → Sta G O F H σ r → Rep G F x v → RelV v u →
    Pst G W OX O O σ F H (RD G) Q (o x r) → wpAny (model X.prog X.w) X.A (f u) (EP X pins σ Q) X.xe s

theorem Op2.of {f : Value → Value → Sem Value} {o : D → D → Ev → Out D} {h : R2} (ho : OpR X f h)
    (hp : ∀ (σ : L2.St) (F H : Hp) (r : Ev) (x y : D) (v w : V) (Q : VK), Sta G O F H σ r → Rep G F x v → Rep G F y w → Pst G W OX O O σ F H (RD G) Q (o x y r) → h v w H Q) : Op2 G X W OX O f o :=
  fun pins s σ F H r x y v w u u' Q I S rx ry ru ru' p => ho pins s σ H v w u u' Q I ru ru' (hp σ F H r x y v w Q S rx ry p)
theorem Op1.of {f : Value → Sem Value} {o : D → Ev → Out D} {h : V → Hp → VK → Prop} (ho : UnR X f h)
    (hp : ∀ (σ : L2.St) (F H : Hp) (r : Ev) (x : D) (v : V) (Q : VK), Sta G O F H σ r → Rep G F x v → Pst G W OX O O σ F H (RD G) Q (o x r) → h v H Q) : Op1 G X W OX O f o :=
  fun pins s σ F H r x v u Q I S rx ru p => ho pins s σ H v u Q I ru (hp σ F H r x v Q S rx p)
/-- two behind one another, both values at hand -/
theorem two {a b : Expr} {f g : M D} {k : D → D → Ev → Out D} (ha : PE X a (tE G W OX O O1 f)) (hb : PE X b (tE G W OX O1 O2 g)) {pins : List (Addr × Obj)} {s : Shared} {σ : L2.St} {F H : Hp} {r : Ev} {Q : VK} (I : Inv X pins σ H s) (S : Sta G O F H σ r)
    (p : Pst G W OX O O2 σ F H (RD G) Q ((f r).bind fun x r1 => (g r1).bind fun y r2 => k x y r2)) {α : Type} {Q' : α → Shared → Prop} {h : Value → Value → Sem α}
    (hf : ∀ (x y : D) (v w : V) (u u' : Value) (s2 : Shared) (F2 H2 : Hp) (r2 : Ev), Inv X pins σ H2 s2 → Sta G O2 F2 H2 σ r2 → Rep G F2 x v → Rep G F2 y w → RelV v u → RelV w u' → Pst G W OX O2 O2 σ F2 H2 (RD G) Q (k x y r2) → wpAny (model X.prog X.w) X.A (h u u') Q' X.xe s2) :
    wpAny (model X.prog X.w) X.A (eval a X.env) (fun v s₁ => wpAny (model X.prog X.w) X.A (eval b X.env) (fun u s₂ => wpAny (model X.prog X.w) X.A (h v u) Q' X.xe s₂) X.xe s₁) X.xe s := by
  refine thn (ha.run pins s σ H (fun v H1 => ∃ x, tE G W OX O1 O2 g σ H1 fun w H2 => ∃ F2 r2 y, Sta G O2 F2 H2 σ r2 ∧ Rep G F2 x v ∧ Rep G F2 y w ∧ Pst G W OX O2 O2 σ F2 H2 (RD G) Q (k x y r2)) I
    (tX_bind S p fun x v F1 H1 r1 n1 rx p => ⟨x, tX_bind n1.sta p fun y w F2 H2 r2 n2 ry p => ⟨F2, r2, y, n2.sta, rx.mono n2.stp.fz, ry, p⟩⟩)) fun u s1 ⟨v, H1, I1, ru, x, q1⟩ => ?_
  refine thn (hb.run pins s1 σ H1 _ I1 q1) fun u' s2 ⟨w, H2, I2, ru', F2, r2, y, S2, rx, ry, p⟩ => ?_
  exact hf x y v w u u' s2 F2 H2 r2 I2 S2 rx ry ru ru' p
theorem e_bin {op : Operator} {a b : Expr} {pos : Pos} {o : D → D → Ev → Out D} {f g : M D} (ho : Op2 G X W OX O2 (binaryOp op) o) (ha : PE X a (tE G W OX O O1 f)) (hb : PE X b (tE G W OX O1 O2 g)) : PE X (.BinOp a op b pos) (tE G W OX O O2 (eB o f g)) :=
  ⟨fun pins s σ H Q I ⟨F, r, S, p⟩ => wpAny_BinOp (two ha hb I S p fun x y v w u u' s2 F2 H2 r2 I2 S2 rx ry ru ru' p => ho pins s2 σ F2 H2 r2 x y v w u u' Q I2 S2 rx ry ru ru' p)⟩
theorem e_cmp {op : CmpOp} {a b : Expr} {pos : Pos} {o : D → D → Ev → Out D} {f g : M D} (ho : Op2 G X W OX O2 (compareOp op) o) (ha : PE X a (tE G W OX O O1 f)) (hb : PE X b (tE G W OX O1 O2 g)) (hm : behindInMarks op b = false := by first | exact nomark _ | rfl) :
    PE X (.Compare a [op] [b] pos) (tE G W OX O O2 (eB o f g)) :=
  ⟨fun pins s σ H Q I ⟨F, r, S, p⟩ => wpAny_Compare1 (two ha hb I S p fun x y v w u u' s2 F2 H2 r2 I2 S2 rx ry ru ru' p => ho pins s2 σ F2 H2 r2 x y v w u u' Q I2 S2 rx ry ru ru' p) hm⟩
theorem e_un {op : UnaryOp} {a : Expr} {pos : Pos} {o : D → Ev → Out D} {f : M D} (ho : Op1 G X W OX O1 (unaryOp op) o) (ha : PE X a (tE G W OX O O1 f)) : PE X (.UnaryOp op a pos) (tE G W OX O O1 (eU o f)) := by
  refine ⟨fun pins s σ H Q I ⟨F, r, S, p⟩ => ?_⟩
  refine UnaryOp_ (thn (ha.run pins s σ H (fun v H1 => ∃ F1 r1 x, Sta G O1 F1 H1 σ r1 ∧ Rep G F1 x v ∧ Pst G W OX O1 O1 σ F1 H1 (RD G) Q (o x r1)) I (tX_bind S p fun x v F1 H1 r1 n1 rx p => ⟨F1, r1, x, n1.sta, rx, p⟩)) fun u s1 ⟨v, H1, I1, ru, F1, r1, x, S1, rx, p⟩ => ?_)
  exact ho pins s1 σ F1 H1 r1 x v u Q I1 S1 rx ru p
/-- a op b op' c -/
theorem e_chain {op op' : CmpOp} {a b c : Expr} {pos : Pos} {o o' : D → D → Ev → Out D} {f g h : M D} (ho : Op2 G X W OX O (compareOp op) o) (ho' : Op2 G X W OX O (compareOp op') o') (ha : PE X a (tE G W OX O O f)) (hb : PE X b (tE G W OX O O g))
    (hc : PE X c (tE G W OX O O h)) (hm : lastMarks [op, op'] [b, c] = false := by with_unfolding_all rfl) : PE X (.Compare a [op, op'] [b, c] pos) (tE G W OX O O (eChain o o' f g h)) := by
  refine ⟨fun pins s σ H Q I ⟨F, r, S, p⟩ => ?_⟩
  refine Compare_chain (thn (ha.run pins s σ H (fun v H1 => ∃ x, tE G W OX O O g σ H1 fun w H2 => ∃ F2 r2 y, Sta G O F2 H2 σ r2 ∧ Rep G F2 x v ∧ Rep G F2 y w ∧ Pst G W OX O O σ F2 H2 (RD G) Q
      ((o x y r2).bind fun z r3 => onBl z fun b => if b then (h r3).bind fun w r4 => o' y w r4 else .ok (.bl false) r3)) I
    (tX_bind S p fun x v F1 H1 r1 n1 rx p => ⟨x, tX_bind n1.sta p fun y w F2 H2 r2 n2 ry p => ⟨F2, r2, y, n2.sta, rx.mono n2.stp.fz, ry, p⟩⟩)) fun u s1 ⟨v, H1, I1, ru, x, q1⟩ =>
    chain_link (thn (hb.run pins s1 σ H1 _ I1 q1) fun u' s2 ⟨w, H2, I2, ru', F2, r2, y, S2, rx, ry, p⟩ => ?_)) hm
  refine thn (ho pins s2 σ F2 H2 r2 _ y v w u u' _ I2 S2 rx ry ru ru' (Pst.bind (Rl := RD G) (O1 := O) p)) fun d s3 ⟨v3, H3, I3, r3', z, F3, r3, n3, rz, p⟩ => ?_
  cases rz with
  | @bl b =>
    cases r3'
    refine wpAny_truthy_bool ?_
    cases b with
    | false => exact ite_ff ⟨.bl false, H3, I3, rfl, p.ok n3.sta .bl⟩
    | true =>
      refine ite_tt (chain_last (thn (hc.run pins s3 σ H3 (fun w' H4 => ∃ F4 r4 z', Sta G O F4 H4 σ r4 ∧ Sub F3 F4 ∧ Rep G F4 z' w' ∧ Pst G W OX O O σ F4 H4 (RD G) Q (o' y z' r4)) I3
        (tX_bind n3.sta p fun z' w' F4 H4 r4 n4 rz p => ⟨F4, r4, z', n4.sta, n4.stp.fz, rz, p⟩)) fun u'' s4 ⟨w', H4, I4, r4', F4, r4, z', S4, sb4, rz, p⟩ => ?_))
      exact ho' pins s4 σ F4 H4 r4 y z' w w' u' u'' Q I4 S4 (ry.mono (n3.stp.fz.trans sb4)) rz ru' r4' p
  | _ => exact p.elim
end
end Z

/-! Defs: what a def does to trees (Beh), its promise, calls. -/
namespace Z
open PySem PySem.Spec PyProof.Rows L2

/-- what a def does: from its arguments to its value; behind it the owned arguments as they are then -/
abbrev Beh := List D → Out D
def keepE (io : List Nat) (n : Nat) (r : Ev) : Ev := (List.range n).map fun i => if io.contains i then r.getD i none else none
inductive Fl where
  | nx | rt (d : D) | bk | ct
/-- a def by its body: n parameters, m slots -/
def mkB (n m : Nat) (io : List Nat) (body : M Fl) : Beh := fun ds => if ds.length = n then (match body (ds.map some ++ List.replicate (m - n) none) with
  | .ok .nx r => .ok .non (keepE io n r)
  | .ok (.rt d) r => .ok d (keepE io n r)
  | .ok _ _ => .no
  | .ex e r => .ex e (keepE io n r)
  | .no => .no) else .no
/-- the promise -/
def spB (G : Gm) (n : Nat) (io : List Nat) (B : Beh) : Sp := fun vs H Q E => vs.length = n ∧ ∃ F ds, Sta G io F H (vs.map some) (ds.map some) ∧
  Pst G (fun c dx _ H' => E c dx H') io io io (vs.map some) F H (RD G) Q (B ds)
abbrev FnB (P : Program) (w : World) (G : Gm) (mg : Str → Option Value) (base : Heap) (k : Nat) (f : Addr) (fd : FuncData) (ps : List Str) (n : Nat) (io : List Nat) (B : Beh) : Prop := FnOk P w G.K mg base (L2.CX P w) k f fd ps (spB G n io B)

/-- a call of a def that changes none of its arguments -/
@[simp] def out0 (o : Out D) (r : Ev) : Out D := match o with
  | .ok d _ => .ok d r
  | .ex e _ => .ex e r
  | .no => .no
/-- .. of one that changes its first argument, the caller's slot i -/
@[simp] def out1 (o : Out D) (i : Nat) (r : Ev) : Out D := match o with
  | .ok d q => .ok d (r.set i (q.getD 0 none))
  | .ex e q => .ex e (r.set i (q.getD 0 none))
  | .no => .no
@[simp] def eC (B : Beh) (f : M (List D)) : M D := fun r => (f r).bind fun ds r1 => out0 (B ds) r1
@[simp] def eC1 (B : Beh) (i : Nat) (f : M (List D)) : M D := fun r => (f r).bind fun ds r1 => match r1[i]? with
  | some (some d0) => out1 (B (d0 :: ds)) i r1
  | _ => .no

section
variable {G : Gm} {X : Cx} {W : WX} {OX O O1 O2 O3 : List Nat}
theorem Sta.args {F H : Hp} {ds : List D} {vs : List V} (sb : Sub F H) (wf : Wf G H) (h : RepL G F ds vs) : Sta G [] F H (vs.map some) (ds.map some) where
  sub := sb
  wf := wf
  len := by rw [List.length_map, List.length_map, h.length]
  rp := fun i d _ e => by
    rw [List.getElem?_map] at e
    cases q : ds[i]? with
    | none => rw [q] at e; cases e
    | some d' =>
      rw [q] at e
      cases e
      obtain ⟨v, e1, h1⟩ := h.get q
      exact ⟨v, by rw [List.getElem?_map, e1]; rfl, h1⟩
  ow := fun i hi => by cases hi
  dj := fun i j a hi => by cases hi
theorem notOwn_nil {σ : L2.St} {a : Addr} : ¬ OwnAt [] σ a := fun ⟨_, h, _⟩ => by cases h
/-- what a caller may ask of a def that changes none of its arguments -/
theorem spB_of {σ : L2.St} {F H : Hp} {r : Ev} {ds : List D} {vs : List V} {n : Nat} {B : Beh} {Q : VK} (hx : ∀ i ∈ OX, i ∈ O) (S : Sta G O F H σ r) (h : RepL G F ds vs) (hn : vs.length = n) (p : Pst G W OX O O σ F H (RD G) Q (out0 (B ds) r)) :
    spB G n [] B vs H Q (fun c dx H' => W c dx σ H') := by
  refine ⟨hn, F, ds, Sta.args S.sub S.wf h, ?_⟩
  have stay : ∀ {F' H' : Hp} {r' : Ev}, Nx G [] [] [] (vs.map some) F H (vs.map some) F' H' r' → Nx G OX O O σ F H σ F' H' r := fun {F' H' r'} n =>
    Nx.of (S.stay (n.stp.weak (Mo1 := fun _ => False) fun x z => absurd z notOwn_nil) n.sta.sub n.sta.wf fun _ _ z => z) (n.stp.weak fun x z => absurd z notOwn_nil) fun _ h => h
  revert p
  cases B ds with
  | no => exact fun p => p
  | ok d q => exact fun p v F' H' n rd => p v F' H' (stay n) rd
  | ex e q => exact fun p c dx F' H' n x => let ⟨F2, n2, sb⟩ := (stay n).freeze hx; p c dx F2 H' n2 (x.mono sb)
/-- .. that changes its first argument -/
theorem spB_of1 {σ : L2.St} {F H : Hp} {r : Ev} {ds : List D} {vs : List V} {d0 : D} {v0 : V} {i n : Nat} {B : Beh} {Q : VK} (hx : ∀ i ∈ OX, i ∈ O) (S : Sta G O F H σ r) (hi : i ∈ O) (hd : r[i]? = some (some d0)) (hv : σ[i]? = some (some v0))
    (h : RepL G F ds vs) (hn : (v0 :: vs).length = n) (p : Pst G W OX O O σ F H (RD G) Q (out1 (B (d0 :: ds)) i r)) : spB G n [0] B (v0 :: vs) H Q (fun c dx H' => W c dx σ H') := by
  obtain ⟨v0', e0, ow⟩ := S.own_at hi hd
  rw [hv] at e0
  cases e0
  have SA : Sta G [0] F H ((v0 :: vs).map some) ((d0 :: ds).map some) := by
    have A := Sta.args S.sub S.wf h
    refine ⟨S.sub, S.wf, by simp [h.length], fun j d hj e => ?_, fun j hj => ?_, fun j k a hj hk _ _ => ?_⟩
    · cases j with
      | zero => exact absurd (List.mem_singleton.mpr rfl) hj
      | succ j => exact A.rp j d (by simp) (by simpa using e)
    · rw [List.mem_singleton.mp hj]
      exact ⟨d0, v0, rfl, rfl, ow⟩
    · rw [List.mem_singleton.mp hj, List.mem_singleton.mp hk]
  refine ⟨hn, F, d0 :: ds, SA, ?_⟩
  have mo : ∀ x, OwnAt [0] ((v0 :: vs).map some) x → v0 = .ref x ∧ OwnAt O σ x := fun x ⟨j, hj, e⟩ => by
    rw [List.mem_singleton.mp hj] at e
    have e' : v0 = .ref x := by simpa using e
    exact ⟨e', i, hi, by rw [hv, e']⟩
  have stay : ∀ {F' H' : Hp} {r' : Ev}, Nx G [0] [0] [0] ((v0 :: vs).map some) F H ((v0 :: vs).map some) F' H' r' → Nx G OX O O σ F H σ F' H' (r.set i (r'.getD 0 none)) := fun {F' H' r'} n => by
    obtain ⟨d', v', e1, e2, ow'⟩ := n.sta.ow 0 (by simp)
    have ev : v0 = v' := by simpa using e2
    subst ev
    have er : r'.getD 0 none = some d' := by
      rw [List.getD_eq_getElem?_getD, e1] <;> rfl
    rw [er]
    refine Nx.of ⟨n.sta.sub, n.sta.wf, by simp [S.len], fun j d hj e => ?_, fun j hj => ?_, S.dj⟩ (n.stp.weak fun x m => (mo x m).2) fun _ h => h
    · have q : i ≠ j := fun z => hj (z ▸ hi)
      rw [List.getElem?_set_ne q] at e
      obtain ⟨v, e', rp⟩ := S.rp j d hj e
      exact ⟨v, e', rp.mono n.stp.fz⟩
    · by_cases q : i = j
      · subst q
        have hl : i < r.length := (List.getElem?_eq_some_iff.mp hd).1
        exact ⟨d', v0, List.getElem?_set_self hl, hv, ow'⟩
      · obtain ⟨dj, vj, e1j, e2j, oj⟩ := S.ow j hj
        refine ⟨dj, vj, by rw [List.getElem?_set_ne q]; exact e1j, e2j, oj.mono n.stp fun a ea m => ?_⟩
        exact q (S.dj i j a hi hj (by rw [hv, (mo a m).1]) (by rw [e2j, ea]))
  revert p
  cases B (d0 :: ds) with
  | no => exact fun p => p
  | ok d q => exact fun p v F' H' n rd => p v F' H' (stay n) rd
  | ex e q => exact fun p c dx F' H' n x => let ⟨F2, n2, sb⟩ := (stay n).freeze hx; p c dx F2 H' n2 (x.mono sb)

/-- a def by its body's behaviour -/
theorem fnB {P : Program} {w : World} {mg : Str → Option Value} {base : Heap} {x qual : Str} {params : Arguments} {body : List Stmt} {scope : Scope} {dvs : List V} {kws : List (Str × V)} {f : Addr} {fd : FuncData} {N ps : List Str} {k : Nat} {n m : Nat} {io : List Nat} {b : M Fl}
    (F : FunD G.K x qual params body scope dvs kws f fd) (S : FnScope N ps scope) (hn : ps.length = n) (hm : N.length = m)
    (hb : ∀ (cdv : Value) (A : Around) (outer : List PySem.Env) (s : Shared) (H : Hp) (E : XK), Room k (A.deeper (envOfC qual scope s.heap.objs.size f cdv)) →
      ∃ t, PSs (cxOf (L2.CX P w) P w G.K mg base N qual scope f cdv A outer s H E) body t ∧ ∀ (F : Hp) (σ : L2.St) (r : Ev) (Q : VK), Sta G io F H σ r → (∀ i ∈ io, i < n) → n ≤ m → σ.length = m →
        Pst G (fun c dx _ H' => E c dx H') io io io (σ.take n) F H (RD G) Q (match b r with
          | .ok .nx r => .ok .non (keepE io n r)
          | .ok (.rt d) r => .ok d (keepE io n r)
          | .ok _ _ => .no
          | .ex e r => .ex e (keepE io n r)
          | .no => .no) → t { nx := fun _ H' => Q .non H', rt := Q } σ H) (hio : ∀ i ∈ io, i < n) : FnB P w G mg base (k + 1) f fd ps n io (mkB n m io b) := by
  refine F.ok S (fun vs H Q E h => h.1.trans hn.symm) (fun cdv A outer s H vs Q E hr h => ?_)
  obtain ⟨hl, F0, ds, St, p⟩ := h
  obtain ⟨t, ht, hq⟩ := hb cdv A outer s H E hr
  refine ⟨t, ht, ?_⟩
  have hds : ds.length = n := by
    have := St.len
    rw [List.length_map, List.length_map] at this
    omega
  have hnm : n ≤ m := by
    have h1 := congrArg List.length S.pre
    rw [List.length_take] at h1
    omega
  unfold mkB at p
  rw [if_pos hds] at p
  have hst : L2.start N vs = vs.map some ++ List.replicate (m - n) none := by
    unfold L2.start
    rw [hm, hl]
  refine hq F0 (L2.start N vs) (ds.map some ++ List.replicate (m - n) none) Q ?_ hio hnm (by rw [hst]; simp; omega) ?_
  · rw [hst]
    have nn : ∀ (j : Nat), n ≤ j → ∀ x : D, (ds.map some ++ List.replicate (m - n) (none : Option D))[j]? ≠ some (some x) := fun j hj x e => by
      rw [List.getElem?_append_right (by simp; omega)] at e
      have := List.mem_of_getElem? e
      rw [List.mem_replicate] at this
      cases this.2
    refine ⟨St.sub, St.wf, by simp [hds, hl], fun i d hi e => ?_, fun i hi => ?_, fun i j a hi hj ei ej => ?_⟩
    · have hlt : i < n := Nat.lt_of_not_le fun z => nn i z d e
      rw [List.getElem?_append_left (by simp; omega)] at e ⊢
      exact St.rp i d hi e
    · have hlt := hio i hi
      rw [List.getElem?_append_left (by simp; omega), List.getElem?_append_left (by simp; omega)]
      exact St.ow i hi
    · rw [List.getElem?_append_left (by have := hio i hi; simp; omega)] at ei
      rw [List.getElem?_append_left (by have := hio j hj; simp; omega)] at ej
      exact St.dj i j a hi hj ei ej
  · rw [hst, List.take_left' (by simp [hl])]
    exact p
end
end Z

/-! Statements. -/
namespace Z
open PySem PySem.Spec PyProof.Rows L2

def PstS (G : Gm) (W : WX) (OX OL O O' : List Nat) (σ : L2.St) (F H : Hp) (Dn : Ends) : Out Fl → Prop
  | .ok .nx r' => ∀ σ' F' H', Nx G OX O O' σ F H σ' F' H' r' → Dn.nx σ' H'
  | .ok (.rt d) r' => ∀ v σ' F' H', Nx G OX O OX σ F H σ' F' H' r' → Rep G F' d v → Dn.rt v H'
  | .ok .bk r' => ∀ σ' F' H', Nx G OX O OL σ F H σ' F' H' r' → Dn.bk σ' H'
  | .ok .ct r' => ∀ σ' F' H', Nx G OX O OL σ F H σ' F' H' r' → Dn.ct σ' H'
  | .ex e r' => ∀ c dx σ' F' H', Nx G OX O OX σ F H σ' F' H' r' → XRep G F' e c dx → W c dx σ' H'
  | .no => False
def tS (G : Gm) (W : WX) (OX OL O O' : List Nat) (f : M Fl) : TS := fun Dn σ H => ∃ F r, Sta G O F H σ r ∧ PstS G W OX OL O O' σ F H Dn (f r)

@[simp] def sNil : M Fl := fun r => .ok .nx r
@[simp] def sSeq (f g : M Fl) : M Fl := fun r => match f r with
  | .ok .nx r1 => g r1
  | .ok c r1 => .ok c r1
  | .ex e r1 => .ex e r1
  | .no => .no
@[simp] def sAs (i : Nat) (f : M D) : M Fl := fun r => (f r).bind fun d r1 => .ok .nx (r1.set i (some d))
@[simp] def sRet (f : M D) : M Fl := fun r => (f r).bind fun d r1 => .ok (.rt d) r1
@[simp] def sRetN : M Fl := fun r => .ok (.rt .non) r
@[simp] def sEx (f : M D) : M Fl := fun r => (f r).bind fun _ r1 => .ok .nx r1
@[simp] def sIf (t : M Bool) (f g : M Fl) : M Fl := fun r => (t r).bind fun b r1 => if b then f r1 else g r1
@[simp] def sBk : M Fl := fun r => .ok .bk r
@[simp] def sCt : M Fl := fun r => .ok .ct r
/-- code that is never come to -/
@[simp] def sNo : M Fl := fun _ => .no

section
variable {G : Gm} {X : Cx} {W : WX} {OX OL O O1 O2 O3 : List Nat}
theorem PstS.after {σ σ1 : L2.St} {F H F1 H1 : Hp} {r1 : Ev} {Dn : Ends} {o : Out Fl} (n1 : Nx G OX O O1 σ F H σ1 F1 H1 r1) (p : PstS G W OX OL O O2 σ F H Dn o) : PstS G W OX OL O1 O2 σ1 F1 H1 Dn o := by
  revert p
  cases o with
  | no => exact fun p => p
  | ex e r' => exact fun p c dx σ' F' H' n x => p c dx σ' F' H' (n1.trans n) x
  | ok a r' =>
    cases a with
    | nx => exact fun p σ' F' H' n => p σ' F' H' (n1.trans n)
    | rt d => exact fun p v σ' F' H' n x => p v σ' F' H' (n1.trans n) x
    | bk => exact fun p σ' F' H' n => p σ' F' H' (n1.trans n)
    | ct => exact fun p σ' F' H' n => p σ' F' H' (n1.trans n)
/-- an expression, then a statement -/
theorem tS_bind {α β : Type} {σ : L2.St} {F H : Hp} {r : Ev} {Rl : Hp → Hp → α → β → Prop} {f : M α} {k : α → M Fl} {Q : β → Hp → Prop} {Dn : Ends} (S : Sta G O F H σ r) (p : PstS G W OX OL O O2 σ F H Dn ((f r).bind k))
    (hk : ∀ (a : α) (b : β) (F1 H1 : Hp) (r1 : Ev), Nx G OX O O1 σ F H σ F1 H1 r1 → Rl F1 H1 a b → PstS G W OX OL O1 O2 σ F1 H1 Dn (k a r1) → Q b H1) : tX G W OX O O1 Rl f σ H Q := by
  refine ⟨F, r, S, ?_⟩
  revert p
  cases f r with
  | no => exact fun p => p
  | ex e r' => exact fun p c dx F' H' n x => p c dx σ F' H' n x
  | ok a r1 => exact fun p b F1 H1 n1 rl => hk a b F1 H1 r1 n1 rl (PstS.after n1 p)
theorem s_nil : PSs X [] (tS G W OX OL O O sNil) := pss_nil.imp fun Dn σ H ⟨F, r, S, p⟩ => p σ F H (Nx.rfl' S)
theorem PSeq {st : List Stmt} {f g : M Fl} {Dn : Ends} {σ : L2.St} {H : Hp} (h : tS G W OX OL O O2 (sSeq f g) Dn σ H) : tS G W OX OL O O1 f { Dn with nx := fun σ' H' => tS G W OX OL O1 O2 g Dn σ' H' } σ H := by
  obtain ⟨F, r, S, p⟩ := h
  refine ⟨F, r, S, ?_⟩
  simp only [sSeq] at p
  revert p
  cases f r with
  | no => exact fun p => p
  | ex e r' => exact fun p => p
  | ok a r1 =>
    cases a with
    | nx => exact fun p σ' F' H' n => ⟨F', r1, n.sta, PstS.after n p⟩
    | rt d => exact fun p => p
    | bk => exact fun p => p
    | ct => exact fun p => p
theorem s_cons {st : Stmt} {rest : List Stmt} {f g : M Fl} (h1 : PS X st (tS G W OX OL O O1 f)) (h2 : PSs X rest (tS G W OX OL O1 O2 g)) : PSs X (st :: rest) (tS G W OX OL O O2 (sSeq f g)) :=
  (pss_cons h1 h2).imp fun Dn σ H h => PSeq (st := rest) h
theorem s_one {st : Stmt} {f : M Fl} (h1 : PS X st (tS G W OX OL O O1 f)) : PSs X [st] (tS G W OX OL O O1 f) := pss_one h1
/-- any statement that is never come to -/
theorem s_no {st : Stmt} : PS X st (tS G W OX OL O O1 sNo) := ps_never.imp fun Dn σ H ⟨F, r, S, p⟩ => p
theorem ss_no {st : List Stmt} : PSs X st (tS G W OX OL O O1 sNo) := pss_never.imp fun Dn σ H ⟨F, r, S, p⟩ => p
theorem s_pass {pos} : PS X (.Pass pos) (tS G W OX OL O O sNil) := ps_pass.imp fun Dn σ H ⟨F, r, S, p⟩ => p σ F H (Nx.rfl' S)
theorem s_break {pos} (hl : ∀ i ∈ OL, i ∈ O := by decide) : PS X (.Break pos) (tS G W OX OL O O1 sBk) := ps_break.imp fun Dn σ H ⟨F, r, S, p⟩ => by
  obtain ⟨F2, n2, sb⟩ := (Nx.rfl' (OX := OX) S).freeze hl
  exact p σ F2 H n2
theorem s_continue {pos} (hl : ∀ i ∈ OL, i ∈ O := by decide) : PS X (.Continue pos) (tS G W OX OL O O1 sCt) := ps_continue.imp fun Dn σ H ⟨F, r, S, p⟩ => by
  obtain ⟨F2, n2, sb⟩ := (Nx.rfl' (OX := OX) S).freeze hl
  exact p σ F2 H n2
theorem s_set {x : Str} {e : Expr} {pos pos' : Pos} {f : M D} (i : Nat) (he : PE X e (tE G W OX O O1 f)) (hx : i ∉ OX := by decide) (hN : X.N.Nodup := by first | assumption | decide +kernel) (hi : X.N[i]? = some x := by rfl) (hl : Loc X.env.scope x := by first | exact Or.inl rfl | exact Or.inr rfl)
    (hs : swapsWith e (some (.Name x pos')) pos.line X.env = pure false := by rfl) (hf : X.fn x = true ∨ X.env.scope.names.lookup x = some .local := by first | exact .inl rfl | exact .inr rfl | assumption) :
    PS X (.Assign [.Name x pos'] e pos) (tS G W OX OL O (O1.filter (· != i)) (sAs i f)) :=
  (ps_set hN hi hl he hs hf).imp fun Dn σ H ⟨F, r, S, p⟩ => tS_bind S p fun d v F1 H1 r1 n1 rd p => by
    refine p _ F1 H1 ⟨n1.sta.set i rd, .rfl', fun j hj => ?_, fun a m => ?_⟩
    · exact List.getElem?_set_ne (fun z : i = j => hx (by rw [z]; exact hj))
    · obtain ⟨j, hj, e⟩ := m
      obtain ⟨h1, h2⟩ := List.mem_filter.mp hj
      have q : i ≠ j := fun z => by simp [z] at h2
      rw [List.getElem?_set_ne q] at e
      exact .inl ⟨j, h1, e⟩
theorem s_ret {e : Expr} {pos : Pos} {f : M D} (he : PE X e (tE G W OX O O1 f)) (hx : ∀ i ∈ OX, i ∈ O1 := by decide) : PS X (.Return (some e) pos) (tS G W OX OL O O2 (sRet f)) :=
  (ps_ret he).imp fun Dn σ H ⟨F, r, S, p⟩ => tS_bind S p fun d v F1 H1 r1 n1 rd p => by
    obtain ⟨F2, n2, sb⟩ := (Nx.rfl' (OX := OX) n1.sta).freeze hx
    exact p v σ F2 H1 n2 (rd.mono sb)
theorem s_retN {pos : Pos} (hx : ∀ i ∈ OX, i ∈ O := by decide) : PS X (.Return none pos) (tS G W OX OL O O2 sRetN) :=
  ps_retN.imp fun Dn σ H ⟨F, r, S, p⟩ => by
    obtain ⟨F2, n2, sb⟩ := (Nx.rfl' (OX := OX) S).freeze hx
    exact p .non σ F2 H n2 .non
theorem s_expr {e : Expr} {pos : Pos} {f : M D} (he : PE X e (tE G W OX O O1 f)) (hs : swapsWith e none pos.line X.env = pure false := by rfl) : PS X (.Expr e pos) (tS G W OX OL O O1 (sEx f)) :=
  (ps_expr he hs).imp fun Dn σ H ⟨F, r, S, p⟩ => tS_bind S p fun d v F1 H1 r1 n1 rd p => p σ F1 H1 (Nx.rfl' n1.sta)
theorem s_doc {x j pos pos'} : PS X (.Expr (.Constant (.str x) j pos) pos') (tS G W OX OL O O sNil) := ps_doc.imp fun Dn σ H ⟨F, r, S, p⟩ => p σ F H (Nx.rfl' S)
theorem s_if {c : Expr} {a b : List Stmt} {pos : Pos} {t : M Bool} {f g : M Fl} (hc : PT X c (tT G W OX O O1 t)) (ha : PSs X a (tS G W OX OL O1 O2 f)) (hb : PSs X b (tS G W OX OL O1 O2 g)) : PS X (.If c a b pos) (tS G W OX OL O O2 (sIf t f g)) :=
  (ps_if hc ha hb).imp fun Dn σ H ⟨F, r, S, p⟩ => tS_bind S p fun d v F1 H1 r1 n1 rd p => by
    subst rd
    cases d with
    | true => exact ⟨F1, r1, n1.sta, p⟩
    | false => exact ⟨F1, r1, n1.sta, p⟩

/-! ### a def -/
theorem Nx.cut {io : List Nat} {σ σ' : L2.St} {F H F' H' : Hp} {r' : Ev} {n : Nat} (h : Nx G io io io σ F H σ' F' H' r') (hio : ∀ i ∈ io, i < n) (hn : n ≤ σ.length) :
    Nx G io io io (σ.take n) F H (σ.take n) F' H' (keepE io n r') := by
  have at_ : ∀ i ∈ io, (σ.take n)[i]? = σ'[i]? := fun i hi => by rw [List.getElem?_take_of_lt (hio i hi), h.kp i hi]
  have kat : ∀ i, i < n → (keepE io n r')[i]? = some (if io.contains i then r'.getD i none else none) := fun i hi => by
    unfold keepE
    rw [List.getElem?_map, List.getElem?_range hi]
    rfl
  refine ⟨⟨h.sta.sub, h.sta.wf, by unfold keepE; simp; omega, fun i d hi e => ?_, fun i hi => ?_, fun i j a hi hj ei ej => ?_⟩, h.stp.weak fun x ⟨i, hi, e⟩ => ⟨i, hi, ?_⟩, fun _ _ => rfl, fun _ m => .inl m⟩
  · by_cases hlt : i < n
    · rw [kat i hlt] at e
      have hc : io.contains i = false := by simpa using hi
      rw [hc] at e
      cases e
    · rw [List.getElem?_eq_none (by unfold keepE; simp; omega)] at e
      cases e
  · obtain ⟨d, v, e1, e2, o⟩ := h.sta.ow i hi
    refine ⟨d, v, ?_, by rw [at_ i hi]; exact e2, o⟩
    rw [kat i (hio i hi), if_pos (by simpa using hi), List.getD_eq_getElem?_getD, e1]
    rfl
  · rw [at_ i hi] at ei
    rw [at_ j hj] at ej
    exact h.sta.dj i j a hi hj ei ej
  · rw [List.getElem?_take_of_lt (hio i hi)]
    exact e
theorem def_ok {P : Program} {w : World} {mg : Str → Option Value} {base : Heap} {x qual : Str} {params : Arguments} {body : List Stmt} {scope : Scope} {dvs : List V} {kws : List (Str × V)} {f : Addr} {fd : FuncData} {N ps : List Str} {k : Nat} {n m : Nat} {io : List Nat} {b : M Fl} {O' : List Nat}
    (F : FunD G.K x qual params body scope dvs kws f fd) (S : FnScope N ps scope) (hb : ∀ (cdv : Value) (A : Around) (outer : List PySem.Env) (s : Shared) (H : Hp) (E : XK), Room k (cxOf (L2.CX P w) P w G.K mg base N qual scope f cdv A outer s H E).A →
      Takes (cxOf (L2.CX P w) P w G.K mg base N qual scope f cdv A outer s H E) (fun cls d _ H => E cls d H) →
      PSs (cxOf (L2.CX P w) P w G.K mg base N qual scope f cdv A outer s H E) body (tS G (fun cls d _ H => E cls d H) io [] io O' b)) (hn : ps.length = n := by rfl) (hm : N.length = m := by rfl) (hio : ∀ i ∈ io, i < n := by decide) (hO : ∀ i ∈ io, i ∈ O' := by decide) :
    FnB P w G mg base (k + 1) f fd ps n io (mkB n m io b) := by
  refine fnB F S hn hm (fun cdv A outer s H E hr => ⟨_, hb cdv A outer s H E hr (takes_of rfl rfl rfl rfl), fun F0 σ r Q St _ hnm hl p => ⟨F0, r, St, ?_⟩⟩) hio
  have hnl : n ≤ σ.length := by omega
  revert p
  cases b r with
  | no => exact fun p => p
  | ex e r' => exact fun p c dx σ' F' H' n' x => p c dx F' H' (n'.cut hio hnl) x
  | ok a r' =>
    cases a with
    | nx =>
      intro p σ' F' H' n'
      obtain ⟨F2, n2, sb⟩ := n'.freeze hO
      exact p .non F2 H' (n2.cut hio hnl) .non
    | rt d => exact fun p v σ' F' H' n' rd => p v F' H' (n'.cut hio hnl) rd
    | bk => exact fun p => p.elim
    | ct => exact fun p => p.elim
end
end Z

/-! Operations on plain trees. -/
namespace Z
open PySem PySem.Spec PyProof.Rows L2

/-- less than n bits -/
def wd (n : Nat) (i : Int) : Bool := decide (i.natAbs.log2 < n)
theorem wd_of {n k : Nat} {i : Int} (h : i.natAbs < 2 ^ k) (h0 : 0 < k) (hk : k ≤ n) : wd n i = true := decide_eq_true (Nat.lt_of_lt_of_le (PySem.Flt.log2_lt_of h0 h) hk)
/-- a product that the machine makes -/
def mulB (i j : Int) : Bool := wd 60 i || wd 60 j || (wd 400000 i && wd 400000 j)
theorem mulB_ok {i j : Int} (h : mulB i j = true) : IntMulOk i j := by
  have b : ∀ x : Int, wd 60 x = true → Builtin.Int.intBits x ≤ 64 := fun x hx => by
    have := of_decide_eq_true hx
    unfold Builtin.Int.intBits
    split <;> omega
  unfold mulB at h
  simp only [Bool.or_eq_true, Bool.and_eq_true] at h
  rcases h with (h | h) | ⟨h1, h2⟩
  · exact .of_left (b i h)
  · exact .of_right (b j h)
  · have h1 := of_decide_eq_true h1
    have h2 := of_decide_eq_true h2
    exact CMulW.ok (by unfold CMulW; omega)
theorem op_mulZ {X : Cx} : OpR X (binaryOp .Mult) (rI (fun i j => mulB i j = true) fun i j => .int (i * j)) := opI fun _ _ _ _ _ _ _ hc q => mul_int q (mulB_ok hc)
def big : Nat := 16000000
theorem big_line {n : Nat} (h : n ≤ big) : n ≤ sizeLine := by rw [sizeLine_eq]; unfold big at h; omega

def pAdd : D → D → Option D
  | .int i, .int j => some (.int (i + j))
  | .str a, .str b => if a.length + b.length ≤ big then some (.str (a ++ b)) else none
  | .lst l, .lst m => if l.length + m.length ≤ big then some (.lst (l ++ m)) else none
  | .tup (x :: l), .tup m => if l.length + 1 + m.length ≤ big then some (.tup (x :: l ++ m)) else none
  | _, _ => none
def pSub : D → D → Option D
  | .int i, .int j => some (.int (i - j))
  | _, _ => none
def pMul : D → D → Option D
  | .int i, .int j => if mulB i j then some (.int (i * j)) else none
  | .lst l, .int k => if k ≤ big ∧ l.length * k.toNat ≤ big ∧ -big ≤ k then some (.lst (List.replicate k.toNat l).flatten) else none
  | _, _ => none
def pDiv : D → D → Option D
  | .int i, .int j => if wd 8000 j && !decide (j = 0) then some (.int (i.fdiv j)) else none
  | _, _ => none
def pMod : D → D → Option D
  | .int i, .int j => if j = 0 then none else some (.int (i.fmod j))
  | _, _ => none
def pPow : D → D → Option D
  | .int i, .int j => if 0 ≤ j ∧ j ≤ 1000000 ∧ i.natAbs < 2 ^ 64 then some (.int (i ^ j.toNat)) else none
  | _, _ => none
def pLt : D → D → Option D
  | .int i, .int j => some (.bl (decide (i < j)))
  | .str a, .str b => some (.bl (decide (a.cps.toList < b.cps.toList)))
  | _, _ => none
def pLe : D → D → Option D
  | .int i, .int j => some (.bl (decide (i ≤ j)))
  | _, _ => none
def pGt : D → D → Option D
  | .int i, .int j => some (.bl (decide (j < i)))
  | _, _ => none
def pGe : D → D → Option D
  | .int i, .int j => some (.bl (decide (j ≤ i)))
  | _, _ => none
def pNeg : D → Option D
  | .int i => some (.int (-i))
  | _ => none
mutual
/-- plain data: no dicts, no objects -/
def toP : D → Option PyData
  | .non => some .none
  | .bl b => some (.bool b)
  | .int i => some (.int i)
  | .str x => some (.str x)
  | .tup l => (toPs l).map .tuple
  | .lst l => (toPs l).map .list
  | .kl l => (toPs l).map .list
  | _ => none
def toPs : List D → Option (List PyData)
  | [] => some []
  | d :: l => (toP d).bind fun p => (toPs l).map fun ps => p :: ps
end
def pEqB (x y : D) : Option Bool := match toP x, toP y with
  | some d, some e => if SeqAt.shaped d && SeqAt.shaped e then some (PyData.eqv d e) else none
  | _, _ => none
def pEq (x y : D) : Option D := (pEqB x y).map .bl
def pNe (x y : D) : Option D := (pEqB x y).map fun b => .bl (!b)
/-- flat values as the layer has them -/
def toV : D → Option V
  | .non => some .non
  | .bl b => some (.bl b)
  | .int i => some (.int i)
  | .str x => some (.str x)
  | _ => none
def toVs : List D → Option (List V)
  | [] => some []
  | d :: l => (toV d).bind fun v => (toVs l).map fun vs => v :: vs
def itemsOf : D → Option (List D)
  | .lst l => some l
  | .tup l => some l
  | .kl l => some l
  | _ => none
def pInB (x y : D) : Option Bool := match x, y with
  | .str a, .str b => if a.cps.size = 1 then some (decide (a.cps.getD 0 0 ∈ b.cps.toList)) else none
  | x, y => (itemsOf y).bind fun l => (toVs l).bind fun vs => (toV x).map fun v => inV v vs
def pIn (x y : D) : Option D := (pInB x y).map .bl
def pNotIn (x y : D) : Option D := (pInB x y).map fun b => .bl (!b)
@[simp] def oP (p : D → D → Option D) : D → D → Ev → Out D := fun x y r => liftO (p x y) r
@[simp] def oU (p : D → Option D) : D → Ev → Out D := fun x r => liftO (p x) r
@[simp] def eN (p : List D → Option D) (f : M (List D)) : M D := fun r => (f r).bind fun ds r1 => liftO (p ds) r1

section
variable {G : Gm} {X : Cx} {W : WX} {OX OL O O1 O2 O3 : List Nat}
theorem Pst.fz {σ : L2.St} {F H : Hp} {r : Ev} {Q : VK} {d : D} {p : Addr} {ho : HO} (S : Sta G O F H σ r) (hp : H p = none) (hi : noIns ho = true) (hd : ∀ F', F' p = some ho → Sub F F' → Rep G F' d (.ref p)) (q : Pst G W OX O O σ F H (RD G) Q (.ok d r)) : Q (.ref p) (upd H p ho) := by
  obtain ⟨S', s'⟩ := new_fz (o := ho) S hp hi
  exact q _ _ _ (Nx.of S' s' fun _ h => h) (hd _ upd_same s'.fz)
/-- binary operators on plain trees -/
theorem opP {f : Value → Value → Sem Value} {p : D → D → Option D} {h : R2} (ho : OpR X f h)
    (hp : ∀ (σ : L2.St) (F H : Hp) (r : Ev) (x y d : D) (v w : V) (Q : VK), Sta G O F H σ r → Rep G F x v → Rep G F y w → p x y = some d → Pst G W OX O O σ F H (RD G) Q (.ok d r) → h v w H Q) : Op2 G X W OX O f (oP p) :=
  Op2.of ho fun σ F H r x y v w Q S rx ry q => by
    revert q
    unfold oP
    cases e : p x y with
    | none => exact fun q => q.elim
    | some d => exact fun q => hp σ F H r x y d v w Q S rx ry e q
theorem op1P {f : Value → Sem Value} {p : D → Option D} {h : V → Hp → VK → Prop} (ho : UnR X f h)
    (hp : ∀ (σ : L2.St) (F H : Hp) (r : Ev) (x d : D) (v : V) (Q : VK), Sta G O F H σ r → Rep G F x v → p x = some d → Pst G W OX O O σ F H (RD G) Q (.ok d r) → h v H Q) : Op1 G X W OX O f (oU p) :=
  Op1.of ho fun σ F H r x v Q S rx q => by
    revert q
    unfold oU
    cases e : p x with
    | none => exact fun q => q.elim
    | some d => exact fun q => hp σ F H r x d v Q S rx e q
theorem o_add (hK : X.K = G.K := by rfl) : Op2 G X W OX O (binaryOp .Add) (oP pAdd) :=
  opP (((op_add.or op_add_str).or op_cat).or op_catT) fun σ F H r x y d v w Q S rx ry e q => by
    unfold pAdd at e
    split at e
    · cases rx; cases ry; cases e
      exact .inl (.inl (.inl ⟨_, _, rfl, rfl, q.ok S .int⟩))
    · split at e
      · rename_i hz
        cases rx; cases ry; cases e
        exact .inl (.inl (.inr ⟨_, _, rfl, rfl, big_line hz, q.ok S .str⟩))
      · cases e
    · split at e
      · rename_i hz
        cases e
        cases rx with
        | lst h1 r1 =>
          cases ry with
          | lst h2 r2 =>
            obtain ⟨o1, e1, g1⟩ := S.sub _ _ h1
            obtain ⟨o2, e2, g2⟩ := S.sub _ _ h2
            rw [g1.lst] at e1
            rw [g2.lst] at e2
            refine .inl (.inr ⟨_, _, _, _, rfl, rfl, e1, e2, by rw [← r1.length, ← r2.length]; exact big_line hz, fun p hp => ?_⟩)
            exact q.fz S hp rfl fun F' hF sb => .lst hF ((r1.mono sb).app (r2.mono sb))
      · cases e
    · split at e
      · rename_i hz
        cases e
        cases rx with
        | tup h1 r1 =>
          cases ry with
          | @tup m b ys h2 r2 =>
            refine .inr ?_
            rw [hK]
            refine ⟨_, _, _, _, rfl, rfl, S.sub.sqT h1, S.sub.sqT h2, fun z => (by rw [z] at r1; cases r1), by rw [← r1.length, ← r2.length]; exact big_line hz, fun z => ?_, fun _ p hp => ?_⟩
            · subst z
              cases r2
              exact q.ok S (by rw [List.append_nil]; exact .tup h1 r1)
            · exact q.fz S hp rfl fun F' hF sb => .tup (.inl (.inl hF)) ((r1.mono sb).app (r2.mono sb))
      · cases e
    · cases e
theorem o_sub : Op2 G X W OX O (binaryOp .Sub) (oP pSub) :=
  opP op_sub fun σ F H r x y d v w Q S rx ry e q => by
    unfold pSub at e
    split at e
    · cases rx; cases ry; cases e
      exact ⟨_, _, rfl, rfl, q.ok S .int⟩
    · cases e
theorem RepL.rep {F : Hp} {l : List D} {xs : List V} (h : RepL G F l xs) : ∀ n : Nat, RepL G F (List.replicate n l).flatten (List.replicate n xs).flatten
  | 0 => .nil
  | n + 1 => by
    rw [List.replicate_succ, List.replicate_succ, List.flatten_cons, List.flatten_cons]
    exact h.app (RepL.rep h n)
theorem o_mul : Op2 G X W OX O (binaryOp .Mult) (oP pMul) :=
  opP (op_mulZ.or op_rep) fun σ F H r x y d v w Q S rx ry e q => by
    unfold pMul at e
    split at e
    · split at e
      · rename_i hw
        cases rx; cases ry; cases e
        exact .inl ⟨_, _, rfl, rfl, hw, q.ok S .int⟩
      · cases e
    · split at e
      · rename_i hz
        obtain ⟨z1, z2, z3⟩ := hz
        cases e
        cases rx with
        | lst h1 r1 =>
          cases ry
          obtain ⟨o1, e1, g1⟩ := S.sub _ _ h1
          rw [g1.lst] at e1
          refine .inr ⟨_, _, _, rfl, rfl, e1, by unfold big at z3; omega, by unfold big at z1; omega, by rw [← r1.length]; exact big_line z2, fun p hp => ?_⟩
          exact q.fz S hp rfl fun F' hF sb => .lst hF ((r1.mono sb).rep _)
      · cases e
    · cases e
theorem op_fdivZ : OpR X (binaryOp .FloorDiv) (rI (fun _ j => j ≠ 0 ∧ j.natAbs.log2 < 9000) fun i j => .int (i.fdiv j)) := opI fun _ _ _ _ _ _ _ hc q => floordiv_int hc.1 q (.inl (PyProof.noPylong_of_log2 hc.2))
theorem o_div : Op2 G X W OX O (binaryOp .FloorDiv) (oP pDiv) :=
  opP op_fdivZ fun σ F H r x y d v w Q S rx ry e q => by
    unfold pDiv at e
    split at e
    · split at e
      · rename_i hw
        cases rx; cases ry; cases e
        obtain ⟨h1, h2⟩ := Bool.and_eq_true_iff.mp hw
        have h1 := of_decide_eq_true h1
        exact ⟨_, _, rfl, rfl, ⟨by simpa using h2, by omega⟩, q.ok S .int⟩
      · cases e
    · cases e
theorem o_mod : Op2 G X W OX O (binaryOp .Mod) (oP pMod) :=
  opP op_modN fun σ F H r x y d v w Q S rx ry e q => by
    unfold pMod at e
    split at e
    · split at e
      · cases e
      · rename_i hw
        cases rx; cases ry; cases e
        exact ⟨_, _, rfl, rfl, hw, q.ok S .int⟩
    · cases e
theorem o_pow : Op2 G X W OX O (binaryOp .Pow) (oP pPow) :=
  opP op_pow fun σ F H r x y d v w Q S rx ry e q => by
    unfold pPow at e
    split at e
    · split at e
      · rename_i hw
        cases rx; cases ry; cases e
        exact ⟨_, _, rfl, rfl, hw, q.ok S .int⟩
      · cases e
    · cases e
theorem o_lt : Op2 G X W OX O (compareOp .Lt) (oP pLt) :=
  opP (op_lt.or op_lt_str) fun σ F H r x y d v w Q S rx ry e q => by
    unfold pLt at e
    split at e
    · cases rx; cases ry; cases e
      exact .inl ⟨_, _, rfl, rfl, q.ok S .bl⟩
    · cases rx; cases ry; cases e
      exact .inr ⟨_, _, rfl, rfl, q.ok S .bl⟩
    · cases e
theorem o_le : Op2 G X W OX O (compareOp .LtE) (oP pLe) :=
  opP op_le fun σ F H r x y d v w Q S rx ry e q => by
    unfold pLe at e
    split at e
    · cases rx; cases ry; cases e
      exact ⟨_, _, rfl, rfl, q.ok S .bl⟩
    · cases e
theorem o_gt : Op2 G X W OX O (compareOp .Gt) (oP pGt) :=
  opP op_gt fun σ F H r x y d v w Q S rx ry e q => by
    unfold pGt at e
    split at e
    · cases rx; cases ry; cases e
      exact ⟨_, _, rfl, rfl, q.ok S .bl⟩
    · cases e
theorem o_ge : Op2 G X W OX O (compareOp .GtE) (oP pGe) :=
  opP op_ge fun σ F H r x y d v w Q S rx ry e q => by
    unfold pGe at e
    split at e
    · cases rx; cases ry; cases e
      exact ⟨_, _, rfl, rfl, q.ok S .bl⟩
    · cases e
theorem o_neg : Op1 G X W OX O (unaryOp .USub) (oU pNeg) :=
  op1P un_neg fun σ F H r x d v Q S rx e q => by
    unfold pNeg at e
    split at e
    · cases rx; cases e
      exact ⟨_, rfl, q.ok S .int⟩
    · cases e
mutual
theorem Rep.dp {F H : Hp} (sb : Sub F H) : ∀ {x : D} {v : V} {d : PyData}, Rep G F x v → toP x = some d → Dp G.K H v d
  | _, _, _, .non, e => by cases e; exact .non
  | _, _, _, .bl, e => by cases e; exact .bl _
  | _, _, _, .int, e => by cases e; exact .int _
  | _, _, _, .str, e => by cases e; exact .str _
  | _, _, _, .tup h r, e => by
    rw [toP] at e
    obtain ⟨ds, e1, e2⟩ := Option.map_eq_some_iff.mp e
    subst e2
    exact .tup (sb.sqT h) (RepL.dp sb r e1)
  | _, _, _, .lst h r, e => by
    rw [toP] at e
    obtain ⟨ds, e1, e2⟩ := Option.map_eq_some_iff.mp e
    subst e2
    obtain ⟨o', e', g⟩ := sb _ _ h
    rw [g.lst] at e'
    exact .lst (.inl (.inl e')) (RepL.dp sb r e1)
  | _, _, _, .kl h r, e => by
    rw [toP] at e
    obtain ⟨ds, e1, e2⟩ := Option.map_eq_some_iff.mp e
    subst e2
    exact .lst (sb.sqL h) (RepL.dp sb r e1)
  | _, _, _, .dic _ _ _, e => by cases e
  | _, _, _, .ob _ _ _, e => by cases e
theorem RepL.dp {F H : Hp} (sb : Sub F H) : ∀ {l : List D} {vs : List V} {ds : List PyData}, RepL G F l vs → toPs l = some ds → DpAll G.K H vs ds
  | _, _, _, .nil, e => by cases e; exact .nil
  | _, _, _, .cons h t, e => by
    rw [toPs] at e
    obtain ⟨p, e1, e2⟩ := Option.bind_eq_some_iff.mp e
    obtain ⟨ps, e3, e4⟩ := Option.map_eq_some_iff.mp e2
    subst e4
    exact .cons (Rep.dp sb h e1) (RepL.dp sb t e3)
end
theorem pEqB_dp {F H : Hp} {x y : D} {v w : V} {b : Bool} (sb : Sub F H) (rx : Rep G F x v) (ry : Rep G F y w) (e : pEqB x y = some b) : ∃ d e, Dp G.K H v d ∧ Dp G.K H w e ∧ SeqAt.shaped d = true ∧ SeqAt.shaped e = true ∧ b = PyData.eqv d e := by
  unfold pEqB at e
  split at e
  · rename_i d1 d2 e1 e2
    split at e
    · rename_i hs
      cases e
      obtain ⟨h1, h2⟩ := Bool.and_eq_true_iff.mp hs
      exact ⟨d1, d2, rx.dp sb e1, ry.dp sb e2, h1, h2, rfl⟩
    · cases e
  · cases e
theorem o_eq {k : Nat} (hr : Room k X.A) (hK : X.K = G.K := by rfl) : Op2 G X W OX O (compareOp .Eq) (oP pEq) :=
  opP (op_eqD hr.units) fun σ F H r x y d v w Q S rx ry e q => by
    obtain ⟨b, e1, e2⟩ := Option.map_eq_some_iff.mp e
    subst e2
    obtain ⟨d1, d2, h1, h2, h3, h4, rfl⟩ := pEqB_dp S.sub rx ry e1
    rw [hK]
    exact ⟨d1, d2, h1, h2, h3, h4, q.ok S .bl⟩
theorem o_ne {k : Nat} (hr : Room k X.A) (hK : X.K = G.K := by rfl) : Op2 G X W OX O (compareOp .NotEq) (oP pNe) :=
  opP (op_neD hr.units) fun σ F H r x y d v w Q S rx ry e q => by
    obtain ⟨b, e1, e2⟩ := Option.map_eq_some_iff.mp e
    subst e2
    obtain ⟨d1, d2, h1, h2, h3, h4, rfl⟩ := pEqB_dp S.sub rx ry e1
    rw [hK]
    exact ⟨d1, d2, h1, h2, h3, h4, q.ok S .bl⟩
theorem Rep.flat {F : Hp} {x : D} {v u : V} (h : Rep G F x v) (e : toV x = some u) : u = v ∧ flatV v = true := by
  cases h <;> cases e <;> exact ⟨rfl, rfl⟩
theorem RepL.flat {F : Hp} : ∀ {l : List D} {vs us : List V}, RepL G F l vs → toVs l = some us → us = vs ∧ vs.all flatV = true
  | _, _, _, .nil, e => by cases e; exact ⟨rfl, rfl⟩
  | _, _, _, .cons h t, e => by
    rw [toVs] at e
    obtain ⟨p, e1, e2⟩ := Option.bind_eq_some_iff.mp e
    obtain ⟨ps, e3, e4⟩ := Option.map_eq_some_iff.mp e2
    subst e4
    obtain ⟨q1, q2⟩ := h.flat e1
    obtain ⟨q3, q4⟩ := t.flat e3
    subst q1 q3
    exact ⟨rfl, by rw [List.all_cons, q2, q4]; rfl⟩
theorem Rep.items {F H : Hp} {x : D} {v : V} {l : List D} (sb : Sub F H) (h : Rep G F x v) (e : itemsOf x = some l) : ∃ a xs, v = .ref a ∧ (SqL G.K H a xs ∨ SqT G.K H a xs) ∧ RepL G F l xs := by
  cases h with
  | tup h r => cases e; exact ⟨_, _, rfl, .inr (sb.sqT h), r⟩
  | lst h r =>
    cases e
    obtain ⟨o', e', g⟩ := sb _ _ h
    rw [g.lst] at e'
    exact ⟨_, _, rfl, .inl (.inl (.inl e')), r⟩
  | kl h r => cases e; exact ⟨_, _, rfl, .inl (sb.sqL h), r⟩
  | _ => cases e
theorem sign_of {a : Str} (h : a.cps.size = 1) : a = ⟨#[a.cps.getD 0 0]⟩ := by
  obtain ⟨⟨l⟩⟩ := a
  cases l with
  | nil => cases h
  | cons c t =>
    cases t with
    | nil => rfl
    | cons _ _ => simp at h
theorem pInB_sq {F H : Hp} {x y : D} {v w : V} {b : Bool} (sb : Sub F H) (rx : Rep G F x v) (ry : Rep G F y w) (e : pInB x y = some b) :
    (∃ c z, v = .str ⟨#[c]⟩ ∧ w = .str z ∧ b = decide (c ∈ z.cps.toList)) ∨ (∃ p xs, w = .ref p ∧ (SqL G.K H p xs ∨ SqT G.K H p xs) ∧ flatV v = true ∧ xs.all flatV = true ∧ b = inV v xs) := by
  unfold pInB at e
  split at e
  · split at e
    · rename_i h
      cases e
      cases rx
      cases ry
      exact .inl ⟨_, _, congrArg V.str (sign_of h), rfl, rfl⟩
    · cases e
  · obtain ⟨l, e1, e2⟩ := Option.bind_eq_some_iff.mp e
    obtain ⟨vs, e3, e4⟩ := Option.bind_eq_some_iff.mp e2
    obtain ⟨u, e5, e6⟩ := Option.map_eq_some_iff.mp e4
    obtain ⟨a, xs, rfl, hq, rl⟩ := ry.items sb e1
    obtain ⟨q1, q2⟩ := rl.flat e3
    obtain ⟨q3, q4⟩ := rx.flat e5
    subst q1 q3 e6
    exact .inr ⟨a, _, rfl, hq, q4, q2, rfl⟩
theorem o_in (hK : X.K = G.K := by rfl) : Op2 G X W OX O (compareOp .In) (oP pIn) :=
  opP (op_in_sign.or op_in_seq) fun σ F H r x y d v w Q S rx ry e q => by
    obtain ⟨b, e1, e2⟩ := Option.map_eq_some_iff.mp e
    subst e2
    rcases pInB_sq S.sub rx ry e1 with ⟨c, z, rfl, rfl, rfl⟩ | ⟨p, xs, rfl, h1, h2, h3, rfl⟩
    · exact .inl ⟨c, z, rfl, rfl, q.ok S .bl⟩
    · exact .inr ⟨p, xs, rfl, by rw [hK]; exact h1, h2, h3, q.ok S .bl⟩
theorem o_notIn (hK : X.K = G.K := by rfl) : Op2 G X W OX O (compareOp .NotIn) (oP pNotIn) :=
  opP (op_notIn_sign.or op_notIn_seq) fun σ F H r x y d v w Q S rx ry e q => by
    obtain ⟨b, e1, e2⟩ := Option.map_eq_some_iff.mp e
    subst e2
    rcases pInB_sq S.sub rx ry e1 with ⟨c, z, rfl, rfl, rfl⟩ | ⟨p, xs, rfl, h1, h2, h3, rfl⟩
    · exact .inl ⟨c, z, rfl, rfl, q.ok S .bl⟩
    · exact .inr ⟨p, xs, rfl, by rw [hK]; exact h1, h2, h3, q.ok S .bl⟩
end
end Z

/-! Displays, items, slices, attributes, calls, the text's own operators. -/
namespace Z
open PySem PySem.Spec PyProof.Rows L2

@[simp] def okLen (l : List D) : Bool := decide (l.length ≤ big)
@[simp] def pTup (l : List D) : Option D := if okLen l then some (.tup l) else none
@[simp] def pLst (l : List D) : Option D := if okLen l then some (.lst l) else none
def pIx : D → D → Option D
  | .tup l, .int i => atI l i
  | .lst l, .int i => atI l i
  | .kl l, .int i => atI l i
  | .str z, .int i => if z.length ≤ big then (atI z.cps.toList i).map fun c => .str ⟨#[c]⟩ else none
  | _, _ => none
def cutD (xs : List D) (lo hi : Option Int) : List D := (xs.drop (HT.sIx xs.length 0 lo)).take (HT.sIx xs.length xs.length hi - HT.sIx xs.length 0 lo)
def pSl (x : D) (lo hi : Option Int) : Option D := match x with
  | .lst l => some (.lst (cutD l lo hi))
  | .kl l => some (.lst (cutD l lo hi))
  | .tup l => if HT.sIx l.length 0 lo = 0 ∧ HT.sIx l.length l.length hi = l.length then none else some (.tup (cutD l lo hi))
  | _ => none
@[simp] def iNo : M (Option Int) := fun r => .ok none r
@[simp] def iSo (f : M D) : M (Option Int) := fun r => (f r).bind fun x r1 => match x with
  | .int i => .ok (some i) r1
  | _ => .no
@[simp] def eSl (f : M D) (lo hi : M (Option Int)) : M D := fun r => (f r).bind fun x r1 => (lo r1).bind fun l r2 => (hi r2).bind fun h r3 => liftO (pSl x l h) r3
/-- a field, by the class's place of it -/
@[simp] def eFl (tb : List (Nat × Nat)) (f : M D) : M D := fun r => (f r).bind fun x r1 => match x with
  | .ob c l => (match tb.lookup c with
    | some i => liftO l[i]? r1
    | none => .no)
  | _ => .no
/-- a property -/
@[simp] def okOut (o : Out D) (r : Ev) : Out D := match o with
  | .ok d _ => .ok d r
  | _ => .no
@[simp] def ePr (tb : List (Nat × Beh)) (f : M D) : M D := fun r => (f r).bind fun x r1 => match x with
  | .ob c l => (match tb.lookup c with
    | some B => okOut (B [.ob c l]) r1
    | none => .no)
  | _ => .no
/-- a new instance of a class whose instances never change behind __init__ -/
@[simp] def outN (o : Out D) (r : Ev) : Out D := match o with
  | .ok .non q => (match q[0]? with
    | some (some d) => .ok d r
    | _ => .no)
  | .ex e _ => .ex e r
  | _ => .no
@[simp] def eNw (c : Nat) (B : Beh) (f : M (List D)) : M D := fun r => (f r).bind fun ds r1 => outN (B (.ob c [] :: ds)) r1
@[simp] def eMt (tb : List (Nat × Beh)) (f : M D) (g : M (List D)) : M D := fun r => (f r).bind fun x r1 => (g r1).bind fun ds r2 => match x with
  | .ob c l => (match tb.lookup c with
    | some B => out0 (B (.ob c l :: ds)) r2
    | none => .no)
  | _ => .no
/-- a method of the text, by the left one's class; else a plain operation -/
def oC (tb : List (Nat × Beh)) (p : D → D → Option D) (x y : D) (r : Ev) : Out D := match x with
  | .ob c l => (match tb.lookup c with
    | some B => out0 (B [.ob c l, y]) r
    | none => .no)
  | _ => liftO (p x y) r
def oC1 (tb : List (Nat × Beh)) (p : D → Option D) (x : D) (r : Ev) : Out D := match x with
  | .ob c l => (match tb.lookup c with
    | some B => out0 (B [.ob c l]) r
    | none => .no)
  | _ => liftO (p x) r
@[simp] theorem oC_ob {tb p c l y r} : oC tb p (.ob c l) y r = (match tb.lookup c with | some B => out0 (B [.ob c l, y]) r | none => .no) := rfl
@[simp] theorem oC1_ob {tb p c l r} : oC1 tb p (.ob c l) r = (match tb.lookup c with | some B => out0 (B [.ob c l]) r | none => .no) := rfl
@[simp] theorem oC_int {tb p i y r} : oC tb p (.int i) y r = liftO (p (.int i) y) r := rfl
@[simp] theorem oC_str {tb p i y r} : oC tb p (.str i) y r = liftO (p (.str i) y) r := rfl
@[simp] theorem oC_bl {tb p i y r} : oC tb p (.bl i) y r = liftO (p (.bl i) y) r := rfl
@[simp] theorem oC_non {tb p y r} : oC tb p .non y r = liftO (p .non y) r := rfl
@[simp] theorem oC_lst {tb p i y r} : oC tb p (.lst i) y r = liftO (p (.lst i) y) r := rfl
@[simp] theorem oC_tup {tb p i y r} : oC tb p (.tup i) y r = liftO (p (.tup i) y) r := rfl
@[simp] theorem oC_dic {tb p i j y r} : oC tb p (.dic i j) y r = liftO (p (.dic i j) y) r := rfl
@[simp] theorem oC1_int {tb p i r} : oC1 tb p (.int i) r = liftO (p (.int i)) r := rfl

section
variable {G : Gm} {X : Cx} {W : WX} {OX OL O O1 O2 O3 : List Nat}
/-! ### displays -/
theorem Pst.lift {σ : L2.St} {F H : Hp} {r : Ev} {o : Option D} {Q : VK} (q : Pst G W OX O O σ F H (RD G) Q (liftO o r)) : ∃ d, o = some d ∧ Pst G W OX O O σ F H (RD G) Q (.ok d r) := by
  cases o with
  | none => exact q.elim
  | some d => exact ⟨d, rfl, q⟩
theorem e_tup {es : List Expr} {x1 pos} {f : M (List D)} (h : PA X es (tA G W OX O O1 f)) : PE X (.Tuple es x1 pos) (tE G W OX O O1 (eN pTup f)) :=
  (pe_tup h).imp fun σ H Q ⟨F, r, S, p⟩ => tX_bind S p fun ds vs F1 H1 r1 n1 rs p => by
    obtain ⟨d, e, q⟩ := p.lift
    unfold pTup at e
    by_cases hz : okLen ds = true
    · rw [if_pos hz] at e
      cases e
      refine ⟨big_line (by have := rs.length; have := of_decide_eq_true hz; omega), fun p hp => q.fz n1.sta hp rfl fun F' hF sb => .tup (.inl (.inl hF)) (rs.mono sb)⟩
    · rw [if_neg hz] at e
      cases e
theorem e_lst {es : List Expr} {pos} {f : M (List D)} (h : PA X es (tA G W OX O O1 f)) : PE X (.List es pos) (tE G W OX O O1 (eN pLst f)) :=
  (pe_lst h).imp fun σ H Q ⟨F, r, S, p⟩ => tX_bind S p fun ds vs F1 H1 r1 n1 rs p => by
    obtain ⟨d, e, q⟩ := p.lift
    unfold pLst at e
    by_cases hz : okLen ds = true
    · rw [if_pos hz] at e
      cases e
      refine ⟨big_line (by have := rs.length; have := of_decide_eq_true hz; omega), fun p hp => q.fz n1.sta hp rfl fun F' hF sb => .lst hF (rs.mono sb)⟩
    · rw [if_neg hz] at e
      cases e
/-! ### items -/
theorem RepL.atI {F : Hp} {l : List D} {xs : List V} {i : Int} {d : D} (h : RepL G F l xs) (e : atI l i = some d) : ∃ v, L2.atI xs i = some v ∧ Rep G F d v := by
  unfold L2.atI at e ⊢
  rw [← h.length]
  obtain ⟨j, e1, e2⟩ := Option.bind_eq_some_iff.mp e
  obtain ⟨v, e3, rv⟩ := h.get e2
  exact ⟨v, by rw [e1]; exact e3, rv⟩
theorem e_ix {a b : Expr} {pos : Pos} {f g : M D} (ha : PE X a (tE G W OX O O1 f)) (hb : PE X b (tE G W OX O1 O2 g)) (hs : PlainIx b := by intro _ _; rfl) (hK : X.K = G.K := by rfl) : PE X (.Subscript a b pos) (tE G W OX O O2 (eB (oP pIx) f g)) :=
  (pe_ix ix_seq ha hb hs).imp fun σ H Q ⟨F, r, S, p⟩ => tX_bind S p fun x v F1 H1 r1 n1 rx p => tX_bind n1.sta p fun y w F2 H2 r2 n2 ry p => by
    obtain ⟨d, e, q⟩ := p.lift
    have rx := rx.mono n2.stp.fz
    have sb := n2.sta.sub
    unfold pIx at e
    unfold rIx
    rw [hK]
    split at e
    · cases rx with
      | tup h r =>
        cases ry
        obtain ⟨u, e1, ru⟩ := r.atI e
        exact .inr (.inl ⟨_, _, _, u, rfl, rfl, sb.sqT h, e1, q.ok n2.sta ru⟩)
    · cases rx with
      | lst h r =>
        cases ry
        obtain ⟨u, e1, ru⟩ := r.atI e
        obtain ⟨o', e', g⟩ := sb _ _ h
        rw [g.lst] at e'
        exact .inl ⟨_, _, _, u, rfl, rfl, .inl (.inl e'), e1, q.ok n2.sta ru⟩
    · cases rx with
      | kl h r =>
        cases ry
        obtain ⟨u, e1, ru⟩ := r.atI e
        exact .inl ⟨_, _, _, u, rfl, rfl, sb.sqL h, e1, q.ok n2.sta ru⟩
    · split at e
      · rename_i hz
        cases rx
        cases ry
        obtain ⟨c, e1, e2⟩ := Option.map_eq_some_iff.mp e
        subst e2
        exact .inr (.inr ⟨_, _, c, rfl, rfl, big_line hz, e1, q.ok n2.sta .str⟩)
      · cases e
    · cases e
/-- an item of a list that this code owns: the list is looked at when the index is known -/
@[simp] def eIxO (i : Nat) (g : M D) : M D := fun r => (g r).bind fun y r1 => match r1[i]? with
  | some (some x) => liftO (pIx x y) r1
  | _ => .no
theorem e_ixO {x : Str} {b : Expr} {pos pos' : Pos} {g : M D} (i : Nat) (hb : PE X b (tE G W OX O O1 g)) (hi : i ∈ O1 := by decide) (hs : PlainIx b := by intro _ _; rfl) (hN : X.N[i]? = some x := by rfl)
    (hv : Vis X.env.scope x := by first | exact Or.inl rfl | exact Or.inr (Or.inl rfl) | exact Or.inr (Or.inr rfl)) (hO : i ∈ O := by decide) (hd : (x == ("__debug__" : Str)) = false := by decide) (hcd : (x == ("__classdict__" : Str)) = false := by decide) : PE X (.Subscript (.Name x pos') b pos) (tE G W OX O O1 (eIxO i g)) :=
  (pe_ix ix_list (pe_var hN hv hd hcd) hb hs).imp fun σ H Q ⟨F, r, S, p⟩ => by
    obtain ⟨d0, v0, e1, e2, o0⟩ := S.ow i hO
    refine ⟨v0, e2, tX_bind S p fun y w F1 H1 r1 n1 ry p => ?_⟩
    revert p
    split
    · rename_i x e
      intro p
      obtain ⟨d, e3, q⟩ := p.lift
      obtain ⟨v, e4, o⟩ := n1.sta.own_at hi e
      rw [e2] at e4
      cases e4
      cases o with
      | lst h hf r =>
        cases ry with
        | int =>
          obtain ⟨u, e5, ru⟩ := r.atI e3
          exact ⟨_, _, _, u, rfl, rfl, .inl (.inl h), e5, q.ok n1.sta ru⟩
        | _ => cases e3
      | _ => cases ry <;> cases e3
    · exact fun p => p.elim
/-! ### slices -/
abbrev tI (G : Gm) (W : WX) (OX O O' : List Nat) (f : M (Option Int)) : L2.St → Hp → (Option Int → Hp → Prop) → Prop := tX G W OX O O' (fun _ _ (a b : Option Int) => a = b) f
theorem _root_.L2.PO.imp {X : Cx} {e : Option Expr} {t t' : TO} (h : PO X e t) (i : ∀ σ H Q, t' σ H Q → t σ H Q) : PO X e t' := ⟨fun pins s σ H Q I q => h.run pins s σ H Q I (i σ H Q q)⟩
theorem i_no : PO X none (tI G W OX O O iNo) := po_none.imp fun σ H Q ⟨F, r, S, p⟩ => p none F H (Nx.rfl' S) rfl
theorem i_so {e : Expr} {f : M D} (h : PE X e (tE G W OX O O1 f)) : PO X (some e) (tI G W OX O O1 (iSo f)) :=
  (po_some h).imp fun σ H Q ⟨F, r, S, p⟩ => tX_bind S p fun x v F1 H1 r1 n1 rx p => by
    cases rx with
    | int => exact ⟨_, rfl, p _ F1 H1 (Nx.rfl' n1.sta) rfl⟩
    | _ => exact p.elim
theorem RepL.cut {F : Hp} {l : List D} {xs : List V} (h : RepL G F l xs) (lo hi : Option Int) : RepL G F (cutD l lo hi) (cutV xs lo hi) := by
  unfold cutD cutV
  rw [h.length]
  exact (h.drop _).take _
theorem e_sl {e : Expr} {lo hi : Option Expr} {p2 pos : Pos} {f : M D} {l h : M (Option Int)} (he : PE X e (tE G W OX O O1 f)) (hl : PO X lo (tI G W OX O1 O2 l)) (hh : PO X hi (tI G W OX O2 O3 h)) (hK : X.K = G.K := by rfl) :
    PE X (.Subscript e (.Slice lo hi none p2) pos) (tE G W OX O O3 (eSl f l h)) :=
  (pe_slice (sl_list.or sl_tup) he hl hh).imp fun σ H Q ⟨F, r, S, p⟩ => tX_bind S p fun x v F1 H1 r1 n1 rx p => tX_bind n1.sta p fun lo lo' F2 H2 r2 n2 el p => tX_bind n2.sta p fun hi hi' F3 H3 r3 n3 eh p => by
    subst el eh
    obtain ⟨d, e, q⟩ := p.lift
    have rx := rx.mono (n2.stp.fz.trans n3.stp.fz)
    have sb := n3.sta.sub
    unfold pSl at e
    unfold rSlL rSlT
    rw [hK]
    split at e
    · cases e
      cases rx with
      | lst h r =>
        obtain ⟨o', e', g⟩ := sb _ _ h
        rw [g.lst] at e'
        exact .inl ⟨_, _, rfl, .inl (.inl e'), fun p hp => q.fz n3.sta hp rfl fun F' hF sb' => .lst hF ((r.mono sb').cut _ _)⟩
    · cases e
      cases rx with
      | kl h r => exact .inl ⟨_, _, rfl, sb.sqL h, fun p hp => q.fz n3.sta hp rfl fun F' hF sb' => .lst hF ((r.mono sb').cut _ _)⟩
    · split at e
      · cases e
      · rename_i hw
        cases e
        cases rx with
        | tup h r => exact .inr ⟨_, _, rfl, sb.sqT h, by rw [← r.length]; exact hw, fun p hp => q.fz n3.sta hp rfl fun F' hF sb' => .tup (.inl (.inl hF)) ((r.mono sb').cut _ _)⟩
    · cases e
/-! ### attributes -/
/-- what is known of a class of the text -/
structure ClsOk (G : Gm) (c : Nat) : Prop where
  cl : Cls G.K (G.cA c)
  nd : (G.lay c).Nodup
  sub : ∀ f ∈ G.lay c, f ∈ G.flds
  na : ∀ f ∈ G.lay c, NoAttr G.K (G.cA c) f
  few : (G.lay c).length ≤ 900
theorem zip_lookup : ∀ {lay : List Str} {xs : List V} {i : Nat} {f : Str} {v : V} (more : List (Str × V)), lay.Nodup → lay[i]? = some f → xs[i]? = some v → (lay.zip xs ++ more).lookup f = some v
  | [], _, _, _, _, _, _, e, _ => by simp at e
  | _ :: _, [], _, _, _, _, _, _, e => by simp at e
  | a :: lay, x :: xs, 0, f, v, more, nd, e1, e2 => by
    simp at e1 e2
    subst e1 e2
    simp
  | a :: lay, x :: xs, i + 1, f, v, more, nd, e1, e2 => by
    have h1 : lay[i]? = some f := by simpa using e1
    have h2 : xs[i]? = some v := by simpa using e2
    have hne : f ≠ a := fun z => (List.nodup_cons.mp nd).1 (by rw [← z]; exact List.mem_of_getElem? h1)
    rw [List.zip_cons_cons, List.cons_append, List.lookup_cons, show (f == a) = false by simp [hne]]
    exact zip_lookup more (List.nodup_cons.mp nd).2 h1 h2
theorem Rep.field {F H : Hp} {c i : Nat} {l : List D} {v : V} {d : D} {f : Str} (sb : Sub F H) (h : Rep G F (.ob c l) v) (co : ClsOk G c) (hf : (G.lay c)[i]? = some f) (e : l[i]? = some d) :
    ∃ a dx fs u, v = .ref a ∧ H a = some (.ins (G.cA c) dx fs) ∧ fs.lookup f = some u ∧ Rep G F d u := by
  cases h with
  | @ob _ _ a dx xs more h hl r =>
    obtain ⟨o', e', g⟩ := sb _ _ h
    obtain ⟨m, eo⟩ := g.ins
    subst eo
    obtain ⟨u, e1, ru⟩ := r.get e
    exact ⟨a, dx, _, u, rfl, e', by rw [List.append_assoc]; exact zip_lookup _ co.nd hf e1, ru⟩
theorem e_fl {e : Expr} {f : Str} {pos : Pos} {g : M D} (tb : List (Nat × Nat)) (he : PE X e (tE G W OX O O1 g)) (ht : ∀ c i, tb.lookup c = some i → ClsOk G c ∧ (G.lay c)[i]? = some f) (hb : attributeBase e f X.env (eval e X.env) = eval e X.env := by rfl) (hK : X.K = G.K := by rfl) :
    PE X (.Attribute e f pos) (tE G W OX O O1 (eFl tb g)) :=
  (pe_fld he hb).imp fun σ H Q ⟨F, r, S, p⟩ => tX_bind S p fun x v F1 H1 r1 n1 rx p => by
    cases rx with
    | @ob c l a dx xs more h hl rr =>
      revert p
      simp only
      cases e1 : tb.lookup c with
      | none => exact fun p => p.elim
      | some i =>
        intro p
        obtain ⟨d, e2, q⟩ := Pst.lift p
        obtain ⟨co, hf⟩ := ht c i e1
        obtain ⟨a', dx', fs, u, ev, e3, e4, ru⟩ := Rep.field n1.sta.sub (.ob h hl rr) co hf e2
        rw [hK]
        exact ⟨a', _, dx', fs, u, ev, e3, co.cl, co.na f (List.mem_of_getElem? hf), e4, q.ok n1.sta ru⟩
    | _ => exact p.elim
/-- a property's getter -/
structure PrOk (G : Gm) (P : Program) (w : World) (mg : Str → Option Value) (base : Heap) (k : Nat) (c : Nat) (f : Str) (B : Beh) : Prop where
  cl : Cls G.K (G.cA c)
  pr : ∃ p g fd ps, PropOf G.K (G.cA c) f p g ∧ FnB P w G mg base k g fd ps 1 [] B ∧ Binds G.K fd ps []
theorem e_pr {e : Expr} {f : Str} {pos : Pos} {g : M D} {k : Nat} (tb : List (Nat × Beh)) (hr : Room (k + 1) X.A) (he : PE X e (tE G W OX O O1 g)) (ht : ∀ c B, tb.lookup c = some B → PrOk G X.prog X.w X.mg X.base k c f B)
    (hb : attributeBase e f X.env (eval e X.env) = eval e X.env := by rfl) (hK : X.K = G.K := by rfl) : PE X (.Attribute e f pos) (tE G W OX O O1 (ePr tb g)) := by
  refine ⟨fun pins s σ H Q I ⟨F, r, S, p⟩ => ?_⟩
  refine attr_of hb (thn (he.run pins s σ H (fun v H1 => ∃ x F1 r1, Sta G O1 F1 H1 σ r1 ∧ Rep G F1 x v ∧ Pst G W OX O1 O1 σ F1 H1 (RD G) Q (match (motive := D → Out D) x with
    | .ob c l => (match tb.lookup c with
      | some B => okOut (B [.ob c l]) r1
      | none => .no)
    | _ => .no)) I (tX_bind S p fun x v F1 H1 r1 n1 rx p => ⟨x, F1, r1, n1.sta, rx, p⟩)) fun u s1 ⟨v, H1, I1, ru, x, F1, r1, S1, rx, p⟩ => ?_)
  cases rx with
  | @ob c l a dx xs more h hl rr =>
    revert p
    simp only
    cases e1 : tb.lookup c with
    | none => exact fun p => p.elim
    | some B =>
      intro p
      have p : Pst G W OX O1 O1 σ F1 H1 (RD G) Q (okOut (B [.ob c l]) r1) := p
      obtain ⟨cl, pp, gg, fd, ps, hp, Fk, hbd⟩ := ht c B e1
      obtain ⟨o', e', gr⟩ := S1.sub _ _ h
      obtain ⟨m, eo⟩ := gr.ins
      subst eo
      obtain rfl : u = Value.ref a := ru
      have Fk' : FnOk X.prog X.w X.K X.mg X.base (L2.CX X.prog X.w) k gg fd ps (spB G 1 [] B) := by rw [hK]; exact Fk
      have hp' : PropOf X.K (G.cA c) f pp gg := by rw [hK]; exact hp
      refine getprop_ok I1 e' (by rw [hK]; exact cl) hp' Fk' hr (by rw [hK]; exact hbd) .nil (E := fun _ _ _ => False) (fun _ _ _ _ _ _ _ ⟨_, _, _, _, _, _, _, _, _, _, _, _, z⟩ => z.elim) ?_
      have sp := spB_of (W := fun _ _ _ _ => False) (OX := []) (σ := σ) (r := r1) (O := O1) (B := B) (ds := [.ob c l]) (vs := [.ref a]) (Q := Q) (n := 1) (fun _ z => nomatch z) S1 (.cons (.ob h hl rr) .nil) rfl ?_
      · exact sp
      · revert p
        cases B [.ob c l] with
        | ok d q => exact fun p v' F' H' n rd => p v' F' H' ⟨n.sta, n.stp, fun _ _ => rfl, n.pv⟩ rd
        | ex e q => exact fun p => p.elim
        | no => exact fun p => p.elim
  | _ => exact p.elim

/-! ### calls -/
/-- a def of the text under a name of its own -/
structure GlOk (G : Gm) (P : Program) (w : World) (mg : Str → Option Value) (base : Heap) (k : Nat) (x : Str) (n : Nat) (io : List Nat) (B : Beh) (f : Addr) (fd : FuncData) (ps : List Str) : Prop where
  at_ : mg x = some (.ref f)
  kp : PySem.W.keepIn G.K (.ref f) = true
  fn : FnB P w G mg base k f fd ps n io B
  ar : ∀ ds, ds.length ≠ n → B ds = .no
theorem ar_of {n m : Nat} {io : List Nat} {b : M Fl} : ∀ ds, ds.length ≠ n → mkB n m io b ds = .no := fun ds h => if_neg h
theorem len_of {σ : L2.St} {F H : Hp} {r : Ev} {n : Nat} {B : Beh} {ds : List D} {vs : List V} {Q : VK} (ar : ∀ ds, ds.length ≠ n → B ds = .no) (rs : RepL G F ds vs) (p : Pst G W OX O O σ F H (RD G) Q (out0 (B ds) r)) : vs.length = n := by
  by_cases h : ds.length = n
  · rw [← rs.length, h]
  · rw [ar ds h] at p
    exact p.elim
theorem run_B {k : Nat} {f : Addr} {fd : FuncData} {ps : List Str} {n : Nat} {io : List Nat} {B : Beh} {pins : List (Addr × Obj)} {σ : L2.St} {H : Hp} {s : Shared} {Q : VK} {us ds : List Value} {vs dvs : List V} (tk : Takes X W) (F : FnOk X.prog X.w X.K X.mg X.base (L2.CX X.prog X.w) k f fd ps (spB G n io B))
    (hr : Room k X.A) (hb : Binds X.K fd ps ds) (hd : Vals dvs ds) (I : Inv X pins σ H s) (r : Vals vs us) (h : spB G n io B (vs ++ dvs) H Q (fun c dx H' => W c dx σ H')) : wpAny (model X.prog X.w) X.A (call (.ref f) us) (EP X pins σ Q) X.xe s :=
  run_fnSD (E := WE W) F hr hb hd (passAt tk σ) I r h
theorem RepL.more {F : Hp} {ds dd : List D} {vs dvs : List V} (h : RepL G F ds vs) (h' : ∀ F, RepL G F dd dvs) : RepL G F (ds ++ dd) (vs ++ dvs) := h.app (h' F)
@[simp] def eCd (B : Beh) (dd : List D) (f : M (List D)) : M D := fun r => (f r).bind fun ds r1 => out0 (B (ds ++ dd)) r1
/-- f(e, ..), the last parameters by their defaults dd -/
theorem e_call {x : Str} {p pos : Pos} {e : Expr} {es : List Expr} {k n : Nat} {B : Beh} {f : Addr} {fd : FuncData} {ps : List Str} {g : M (List D)} {ds : List Value} {dvs : List V} {dd : List D} (tk : Takes X W) (hr : Room k X.A) (gl : GlOk G X.prog X.w X.mg X.base k x n [] B f fd ps)
    (hb : Binds G.K fd ps ds) (hd : Vals dvs ds) (hdd : ∀ F, RepL G F dd dvs) (ha : PA X (e :: es) (tA G W OX O O1 g)) (hx : ∀ i ∈ OX, i ∈ O1 := by decide) (hg : Gl X x := by rfl) (hK : X.K = G.K := by rfl) (hdb : (x == ("__debug__" : Str)) = false := by decide)
    (he : starEach (e :: es) X.env = (false, eval e X.env) :: starEach es X.env := by rfl) (hpl : (backTo pos (starEach es X.env)).any (·.1) = false := by rfl) : PE X (.Call (.Name x p) (e :: es) [] pos) (tE G W OX O O1 (eCd B dd g)) := by
  refine ⟨fun pins s σ H Q I ⟨F, r, S, p⟩ => ?_⟩
  refine wpAny_Call_Name_kw (ld_glob I hg gl.at_ ?_ hdb)
  refine PySem.W.callWith_K (h₀ := X.base) I.ok.mod.kin (by rw [hK]; exact gl.kp) (thn (ha.run pos pins s σ H (fun vs H1 => ∃ ds F1 r1, Sta G O1 F1 H1 σ r1 ∧ RepL G F1 ds vs ∧ Pst G W OX O1 O1 σ F1 H1 (RD G) Q (out0 (B (ds ++ dd)) r1)) I
    (tX_bind S p fun ds vs F1 H1 r1 n1 rs p => ⟨ds, F1, r1, n1.sta, rs, p⟩)) fun us s1 ⟨vs, H1, I1, rv, ds, F1, r1, S1, rs, p⟩ => ⟨I1.kIn, ?_⟩) he hpl
  have Fk : FnOk X.prog X.w X.K X.mg X.base (L2.CX X.prog X.w) k f fd ps (spB G n [] B) := by rw [hK]; exact gl.fn
  exact run_B tk Fk hr (by rw [hK]; exact hb) hd I1 rv (spB_of hx S1 (rs.more hdd) (len_of gl.ar (rs.more hdd) p) p)
end
end Z

/-! Calls: keywords, methods, static methods, new instances, owned arguments; the text's own operators. -/
namespace Z
open PySem PySem.Spec PyProof.Rows L2

/-- the items of l at the places o -/
def permL {α : Type} (o : List Nat) (l : List α) : List α := o.filterMap fun i => l[i]?
@[simp] def eCk (B : Beh) (n m : Nat) (o : List Nat) (dd : List D) (f g : M (List D)) : M D := fun r => (f r).bind fun ds r1 => (g r1).bind fun zs r2 => if ds.length = n ∧ zs.length = m then out0 (B (permL o (ds ++ zs ++ dd))) r2 else .no
@[simp] def eNk (c : Nat) (B : Beh) (n m : Nat) (o : List Nat) (dd : List D) (f g : M (List D)) : M D := fun r => (f r).bind fun ds r1 => (g r1).bind fun zs r2 => if ds.length = n ∧ zs.length = m then outN (B (.ob c [] :: permL o (ds ++ zs ++ dd))) r2 else .no
@[simp] def eNd (c : Nat) (B : Beh) (dd : List D) (f : M (List D)) : M D := fun r => (f r).bind fun ds r1 => outN (B (.ob c [] :: (ds ++ dd))) r1
/-- by the class of x -/
@[simp] def onMt (tb : List (Nat × Beh)) (x : D) (k : Beh → Out D) : Out D := match x with
  | .ob c fs => (match tb.lookup c with
    | some B => k fun l => B (.ob c fs :: l)
    | none => .no)
  | _ => .no
@[simp] def eMd (tb : List (Nat × Beh)) (dd : List D) (f : M D) (g : M (List D)) : M D := fun r => (f r).bind fun x r1 => onMt tb x fun B => (g r1).bind fun ds r2 => out0 (B (ds ++ dd)) r2
@[simp] def eMk (tb : List (Nat × Beh)) (n m : Nat) (o : List Nat) (dd : List D) (f : M D) (g h : M (List D)) : M D := fun r => (f r).bind fun x r1 => onMt tb x fun B => (g r1).bind fun ds r2 => (h r2).bind fun zs r3 => if ds.length = n ∧ zs.length = m then out0 (B (permL o (ds ++ zs ++ dd))) r3 else .no
@[simp] def eCo (B : Beh) (i : Nat) (f : M (List D)) : M D := fun r => (f r).bind fun ds r1 => match r1[i]? with
  | some (some d0) => out1 (B (d0 :: ds)) i r1
  | _ => .no

section
variable {G : Gm} {X : Cx} {W : WX} {OX OL O O1 O2 O3 : List Nat}
theorem RepL.perm {F : Hp} {l : List D} {xs : List V} (h : RepL G F l xs) : ∀ o : List Nat, RepL G F (permL o l) (permL o xs)
  | [] => .nil
  | i :: o => by
    unfold permL
    rw [List.filterMap_cons, List.filterMap_cons]
    cases e : l[i]? with
    | none =>
      have : xs[i]? = none := by
        rw [List.getElem?_eq_none_iff] at e ⊢
        rw [← h.length]
        exact e
      rw [this]
      exact RepL.perm h o
    | some d =>
      obtain ⟨v, e1, r1⟩ := h.get e
      rw [e1]
      exact .cons r1 (RepL.perm h o)
theorem Vals.perm {l : List V} {xs : List Value} (h : Vals l xs) : ∀ o : List Nat, Vals (permL o l) (permL o xs)
  | [] => .nil
  | i :: o => by
    unfold permL
    rw [List.filterMap_cons, List.filterMap_cons]
    cases e : l[i]? with
    | none =>
      rw [L2.Vals.none_of h e]
      exact Vals.perm h o
    | some d =>
      obtain ⟨v, e1, r1⟩ := L2.Vals.get h e
      rw [e1]
      exact .cons r1 (Vals.perm h o)
/-- how a call with keywords binds -/
def BindK (K : PySem.W.Frag) (fd : FuncData) (ps : List Str) (n : Nat) (ks : List Str) (o : List Nat) (ds : List Value) : Prop :=
  ∀ (s : Shared) (us ws : List Value), K.In s.heap → us.length = n → ws.length = ks.length → BindsTo s fd ⟨us, ks.zip ws⟩ (ps.zip (permL o (us ++ ws ++ ds)))
theorem k_nil : PK X [] (tA G W OX O O aNil) := ⟨fun pos pins s σ H Q I ⟨F, r, S, p⟩ => pk_nil.run pos pins s σ H Q I (p.ok S .nil)⟩
theorem k_cons {e : Expr} {kws : List Keyword} {nm : Option Str} {kpos : Pos} {f : M D} {g : M (List D)} (ha : PE X e (tE G W OX O O1 f)) (hr : PK X kws (tA G W OX O1 O2 g)) : PK X (⟨nm, e, kpos⟩ :: kws) (tA G W OX O O2 (aCons f g)) :=
  ⟨fun pos pins s σ H Q I ⟨F, r, S, p⟩ => (pk_cons ha hr).run pos pins s σ H Q I (tX_bind S p fun x v F1 H1 r1 n1 rx p => tX_bind n1.sta p fun xs vs F2 H2 r2 n2 rxs p2 => p2.ok n2.sta (.cons (rx.mono n2.stp.fz) rxs))⟩
theorem run_Bk {k : Nat} {f : Addr} {fd : FuncData} {ps : List Str} {n : Nat} {io : List Nat} {B : Beh} {pins : List (Addr × Obj)} {σ : L2.St} {H : Hp} {s : Shared} {Q : VK} {us us' : List Value} {kw : List (Str × Value)} {vs : List V} (tk : Takes X W)
    (F : FnOk X.prog X.w X.K X.mg X.base (L2.CX X.prog X.w) k f fd ps (spB G n io B)) (hr : Room k X.A) (bt : BindsTo s fd ⟨us, kw⟩ (ps.zip us')) (I : Inv X pins σ H s) (r : Vals vs us') (h : spB G n io B vs H Q (fun c dx H' => W c dx σ H')) :
    wpAny (model X.prog X.w) X.A (call (.ref f) us kw) (EP X pins σ Q) X.xe s := by
  have run := F.run X.A X.stack s H ⟨us, kw⟩ us' vs Q (fun c dx H' => W c dx σ H') hr I.env0 bt r h
  refine wpAny_call (codeAny_mono run fun res s' back => ?_)
  match res, back with
  | .error er, back => exact passAt tk σ pins H s er s' I back
  | .ok (.ret u), back => exact I.after back
  | .ok .next, back => exact back.elim
  | .ok .brk, back => exact back.elim
  | .ok .cont, back => exact back.elim
/-- C(..) with an __init__ of the text -/
theorem run_Nk {k c : Nat} {f : Addr} {fd : FuncData} {ps : List Str} {n : Nat} {B : Beh} {pins : List (Addr × Obj)} {σ : L2.St} {F H : Hp} {r : Ev} {s : Shared} {Q : VK} {us us' : List Value} {kw : List (Str × Value)} {vs : List V} {ds : List D} (tk : Takes X W)
    (F1 : FnOk X.prog X.w X.K X.mg X.base (L2.CX X.prog X.w) k f fd ps (spB G n [0] B)) (hr : Room (k + 1) X.A) (Mc : Mk X.K (G.cA c) f) (him : G.imm c = true)
    (bt : ∀ (s : Shared) (x : Value), X.K.In s.heap → BindsTo s fd ⟨x :: us, kw⟩ (ps.zip (x :: us'))) (I : Inv X pins σ H s) (S : Sta G O F H σ r) (rv : Vals vs us') (rs : RepL G F ds vs) (ar : ∀ ds, ds.length ≠ n → B ds = .no) (hx : ∀ i ∈ OX, i ∈ O)
    (p : Pst G W OX O O σ F H (RD G) Q (outN (B (.ob c [] :: ds)) r)) : wpAny (model X.prog X.w) X.A (call (.ref (G.cA c)) us kw) (EP X pins σ Q) X.xe s := by
  have hn : (V.ref 0 :: vs).length = n := by
    by_cases h : (D.ob c [] :: ds).length = n
    · rw [← h, List.length_cons, List.length_cons, rs.length]
    · rw [ar _ h] at p
      exact p.elim
  -- the new instance
  have nx : H (s.heap.objs.size + 1) = none := I.hok.fresh (Nat.le_succ _)
  have nd : H s.heap.objs.size = none := I.hok.fresh (Nat.le_refl _)
  have ne : s.heap.objs.size + 1 ≠ s.heap.objs.size := Nat.succ_ne_self _
  have I2 := Inv.made (C := G.cA c) I
  generalize hxa : s.heap.objs.size + 1 = x at nx ne I2
  generalize hda : s.heap.objs.size = dx at nd ne I2
  have fx : F x = none := by
    cases q : F x with
    | none => rfl
    | some u =>
      obtain ⟨o', e, _⟩ := S.sub x u q
      rw [nx] at e
      cases e
  have hH : ∀ {a : Addr} {o : HO}, H a = some o → upd (upd H dx (.own x)) x (.ins (G.cA c) dx []) a = some o := fun {a o} e => by
    rw [upd_ne (ne_of_none e nx), upd_ne (ne_of_none e nd)]
    exact e
  have sb : Sub F (upd (upd H dx (.own x)) x (.ins (G.cA c) dx [])) := fun a o e => by
    obtain ⟨o', e', g⟩ := S.sub a o e
    exact ⟨o', hH e', g⟩
  have wf : Wf G (upd (upd H dx (.own x)) x (.ins (G.cA c) dx [])) := fun a C d fs g e hf => by
    by_cases q : a = x
    · rw [q, upd_same] at e
      cases e
      exact absurd rfl hf
    · rw [upd_ne q] at e
      exact (S.wf.upd rfl) a C d fs g e hf
  have SA : Sta G [0] F (upd (upd H dx (.own x)) x (.ins (G.cA c) dx [])) ((V.ref x :: vs).map some) ((D.ob c [] :: ds).map some) := by
    have A := Sta.args (H := upd (upd H dx (.own x)) x (.ins (G.cA c) dx [])) sb wf rs
    refine ⟨sb, wf, by simp [rs.length], fun j d hj e => ?_, fun j hj => ?_, fun j k a hj hk _ _ => ?_⟩
    · cases j with
      | zero => exact absurd (List.mem_singleton.mpr rfl) hj
      | succ j => exact A.rp j d (by simp) (by simpa using e)
    · rw [List.mem_singleton.mp hj]
      exact ⟨.ob c [], .ref x, rfl, rfl, .ob (xs := []) (dx := dx) (by rw [List.zip_nil_right]; exact upd_same) (.inl fx) (Nat.zero_le _) .nil⟩
    · rw [List.mem_singleton.mp hj, List.mem_singleton.mp hk]
  have mo : ∀ a, OwnAt [0] ((V.ref x :: vs).map some) a → a = x := fun a ⟨j, hj, e⟩ => by
    rw [List.mem_singleton.mp hj] at e
    have e' : V.ref x = V.ref a := by simpa using e
    injection e' with e''
    exact e''.symm
  have st0 : ∀ {F' H' : Hp} {q : Ev}, Nx G [0] [0] [0] ((V.ref x :: vs).map some) F (upd (upd H dx (.own x)) x (.ins (G.cA c) dx [])) ((V.ref x :: vs).map some) F' H' q → Stp (fun _ => False) F H F' H' := fun {F' H' q} n =>
    ⟨n.stp.fz, fun a o e _ => n.stp.kp a o (hH e) (fun m => nomatch (show (none : Option HO) = some o by rw [← nx, ← mo a m]; exact e)), fun a o e _ => n.stp.nf a o (hH e) (fun m => nomatch (show (none : Option HO) = some o by rw [← nx, ← mo a m]; exact e)), fun a e => upd_none (upd_none (n.stp.tr a e))⟩
  have hsp : spB G n [0] B (V.ref x :: vs) (upd (upd H dx (.own x)) x (.ins (G.cA c) dx [])) (fun v H2 => v = .non ∧ Q (.ref x) H2) (fun cl d H' => W cl d σ H') := by
    refine ⟨by rw [← hn]; rfl, F, .ob c [] :: ds, SA, ?_⟩
    revert p
    cases B (.ob c [] :: ds) with
    | no => exact fun p => p.elim
    | ex e q =>
        intro p cl d F' H' n xr
        have n2 : Nx G OX O O σ F H σ F' H' r := Nx.of (S.stay (st0 n) n.sta.sub n.sta.wf fun _ _ z => z) ((st0 n).weak fun _ z => z.elim) fun _ h => h
        obtain ⟨F2, n3, s3⟩ := n2.freeze hx
        exact p cl d F2 H' n3 (xr.mono s3)
    | ok d q =>
      intro p v F' H' n rd
      cases d with
      | non =>
        cases rd
        obtain ⟨d', v', e1, e2, ow⟩ := n.sta.ow 0 (by simp)
        have ev : V.ref x = v' := by simpa using e2
        subst ev
        refine ⟨rfl, ?_⟩
        have p : Pst G W OX O O σ F H (RD G) Q (match q[0]? with | some (some d) => .ok d r | _ => .no) := p
        rw [e1] at p
        obtain ⟨F2, a, ob, ea, hob, rfl, k1, k2, rp⟩ := ow.freeze n.sta.sub
        cases ea
        refine p _ _ H' (Nx.of (S.stay ⟨(st0 n).fz.trans k1, (st0 n).kp, fun a o e m => ?_, (st0 n).tr⟩ k2 n.sta.wf fun _ _ z => z) ⟨(st0 n).fz.trans k1, fun a o e _ => (st0 n).kp a o e fun z => z, fun a o e _ => ?_, (st0 n).tr⟩ fun _ h => h) rp
        · rw [upd_ne (ne_of_none e nx)]
          exact (st0 n).nf a o e fun z => z
        · rw [upd_ne (ne_of_none e nx)]
          exact (st0 n).nf a o e fun z => z
      | _ => exact p.elim
  have run := F1.run (X.A.under (.builtin "type.__call__" ⟨.ref (G.cA c) :: us, kw⟩)) X.stack { s with heap := (s.heap.push PySem.W.emptyDict).push (PySem.W.instObj (G.cA c) dx) } _ ⟨.ref x :: us, kw⟩ (.ref x :: us') (V.ref x :: vs) _ _ (hr.make _ us kw)
    (by have q := I2.env0.make (G.cA c) us kw; exact q) (bt _ _ I2.kIn) (.cons rfl rv) hsp
  refine wpAny_call (make_map (f := f) I.kIn Mc.makes Mc.init (beq_iff_eq.mp Mc.fn) ?_)
  rw [hxa, hda]
  refine codeAny_mono run fun res s' back => ?_
  match res, back with
  | .error er, back => exact passAt tk σ pins _ _ er s' I2 back
  | .ok (.ret u), back =>
    obtain ⟨v, H', I3, rv', ev, q3⟩ := I2.after back
    subst ev
    exact ⟨rv', ⟨V.ref x, H', I3, rfl, q3⟩⟩
  | .ok .next, back => exact back.elim
  | .ok .brk, back => exact back.elim
  | .ok .cont, back => exact back.elim

/-! ### the forms of calls -/
/-- e, ..; k = e, ..: both parts evaluated -/
theorem cw1 {fv : Value} {first : List Value} {e : Expr} {es : List Expr} {kws : List Keyword} {ks : List Str} {pos : Pos} {f g : M (List D)} {k : List D → List D → Ev → Out D} {pins : List (Addr × Obj)} {σ : L2.St} {F H : Hp} {r : Ev} {s : Shared} {Q : VK}
    (hk : PySem.W.keepIn X.K fv = true) (ha : PA X (e :: es) (tA G W OX O O1 f)) (hkw : PK X kws (tA G W OX O1 O2 g)) (I : Inv X pins σ H s) (S : Sta G O F H σ r) (p : Pst G W OX O O2 σ F H (RD G) Q ((f r).bind fun ds r1 => (g r1).bind fun zs r2 => k ds zs r2))
    (cont : ∀ (ds zs : List D) (vs ys : List V) (us ws : List Value) (s2 : Shared) (F2 H2 : Hp) (r2 : Ev), Inv X pins σ H2 s2 → Nx G OX O O2 σ F H σ F2 H2 r2 → RepL G F2 ds vs → RepL G F2 zs ys → Vals vs us → Vals ys ws → Pst G W OX O2 O2 σ F2 H2 (RD G) Q (k ds zs r2) →
      wpAny (model X.prog X.w) X.A (call fv (first ++ us) (ks.zip ws)) (EP X pins σ Q) X.xe s2)
    (hall : (backToKw pos (keywordEach kws X.env)).all (·.1.isSome) = true := by rfl) (hks : (backToKw pos (keywordEach kws X.env)).filterMap (·.1) = ks := by rfl) (he : starEach (e :: es) X.env = (false, eval e X.env) :: starEach es X.env := by rfl)
    (hpl : ((backTo pos (starEach (e :: es) X.env)).any (·.1) || (backToKw pos (keywordEach kws X.env)).any (·.1.isNone)) = false := by rfl) :
    wpAny (model X.prog X.w) X.A (callWith pos fv first (backTo pos (starEach (e :: es) X.env)) (backToKw pos (keywordEach kws X.env))) (EP X pins σ Q) X.xe s := by
  refine PySem.W.callWith_KW (h₀ := X.base) I.ok.mod.kin hk hall (thn (ha.run pos pins s σ H (fun vs H1 => ∃ ds F1 r1, Nx G OX O O1 σ F H σ F1 H1 r1 ∧ RepL G F1 ds vs ∧ Pst G W OX O1 O2 σ F1 H1 (RD G) Q ((g r1).bind fun zs r2 => k ds zs r2)) I
    (tX_bind S p fun ds vs F1 H1 r1 n1 rs p => ⟨ds, F1, r1, n1, rs, p⟩)) fun us s1 ⟨vs, H1, I1, rv, ds, F1, r1, n1, rs, p⟩ => ?_) hpl he
  refine thn (hkw.run pos pins s1 σ H1 (fun ys H2 => ∃ zs F2 r2, Nx G OX O1 O2 σ F1 H1 σ F2 H2 r2 ∧ RepL G F2 zs ys ∧ Pst G W OX O2 O2 σ F2 H2 (RD G) Q (k ds zs r2)) I1
    (tX_bind n1.sta p fun zs ys F2 H2 r2 n2 rz p => ⟨zs, F2, r2, n2, rz, p⟩)) fun ws s2 ⟨ys, H2, I2, rw', zs, F2, r2, n2, rz, p⟩ => ⟨I2.kIn, ?_⟩
  rw [hks]
  exact cont ds zs vs ys us ws s2 F2 H2 r2 I2 (n1.trans n2) (rs.mono n2.stp.fz) rz rv rw' p
theorem cw0 {fv : Value} {first : List Value} {kws : List Keyword} {ks : List Str} {pos : Pos} {g : M (List D)} {k : List D → List D → Ev → Out D} {pins : List (Addr × Obj)} {σ : L2.St} {F H : Hp} {r : Ev} {s : Shared} {Q : VK}
    (hk : PySem.W.keepIn X.K fv = true) (hkw : PK X kws (tA G W OX O O2 g)) (I : Inv X pins σ H s) (S : Sta G O F H σ r) (p : Pst G W OX O O2 σ F H (RD G) Q ((g r).bind fun zs r2 => k [] zs r2))
    (cont : ∀ (ds zs : List D) (vs ys : List V) (us ws : List Value) (s2 : Shared) (F2 H2 : Hp) (r2 : Ev), Inv X pins σ H2 s2 → Nx G OX O O2 σ F H σ F2 H2 r2 → RepL G F2 ds vs → RepL G F2 zs ys → Vals vs us → Vals ys ws → Pst G W OX O2 O2 σ F2 H2 (RD G) Q (k ds zs r2) →
      wpAny (model X.prog X.w) X.A (call fv (first ++ us) (ks.zip ws)) (EP X pins σ Q) X.xe s2)
    (hall : (backToKw pos (keywordEach kws X.env)).all (·.1.isSome) = true := by rfl) (hks : (backToKw pos (keywordEach kws X.env)).filterMap (·.1) = ks := by rfl)
    (hpl : ((backTo pos (starEach [] X.env)).any (·.1) || (backToKw pos (keywordEach kws X.env)).any (·.1.isNone)) = false := by rfl) :
    wpAny (model X.prog X.w) X.A (callWith pos fv first (backTo pos (starEach [] X.env)) (backToKw pos (keywordEach kws X.env))) (EP X pins σ Q) X.xe s := by
  refine PySem.W.callWith_KW0 (h₀ := X.base) I.ok.mod.kin hk hall (thn (hkw.run pos pins s σ H (fun ys H2 => ∃ zs F2 r2, Nx G OX O O2 σ F H σ F2 H2 r2 ∧ RepL G F2 zs ys ∧ Pst G W OX O2 O2 σ F2 H2 (RD G) Q (k [] zs r2)) I
    (tX_bind S p fun zs ys F2 H2 r2 n2 rz p => ⟨zs, F2, r2, n2, rz, p⟩)) fun ws s2 ⟨ys, H2, I2, rw', zs, F2, r2, n2, rz, p⟩ => ⟨I2.kIn, ?_⟩) hpl
  rw [hks]
  exact cont [] zs [] ys [] ws s2 F2 H2 r2 I2 n2 .nil rz .nil rw' p
/-- a class that is made by its __init__ -/
structure NwOk (G : Gm) (P : Program) (w : World) (mg : Str → Option Value) (base : Heap) (k : Nat) (x : Str) (c : Nat) (n : Nat) (B : Beh) (f : Addr) (fd : FuncData) (ps : List Str) : Prop where
  at_ : mg x = some (.ref (G.cA c))
  mkd : Mk G.K (G.cA c) f
  imm : G.imm c = true
  fn : FnB P w G mg base k f fd ps n [0] B
  ar : ∀ ds, ds.length ≠ n → B ds = .no
  pl : ps.length = n
theorem lenN {σ : L2.St} {F H : Hp} {r : Ev} {n : Nat} {B : Beh} {ds : List D} {Q : VK} (ar : ∀ ds, ds.length ≠ n → B ds = .no) (p : Pst G W OX O O σ F H (RD G) Q (outN (B ds) r)) : ds.length = n := by
  by_cases h : ds.length = n
  · exact h
  · rw [ar ds h] at p
    exact p.elim
theorem len0 {σ : L2.St} {F H : Hp} {r : Ev} {n : Nat} {B : Beh} {ds : List D} {Q : VK} (ar : ∀ ds, ds.length ≠ n → B ds = .no) (p : Pst G W OX O O σ F H (RD G) Q (out0 (B ds) r)) : ds.length = n := by
  by_cases h : ds.length = n
  · exact h
  · rw [ar ds h] at p
    exact p.elim
theorem vlen {vs : List V} {us : List Value} (h : Vals vs us) : us.length = vs.length := h.length.symm
theorem e_new {x : Str} {p pos : Pos} {e : Expr} {es : List Expr} {k n c : Nat} {B : Beh} {f : Addr} {fd : FuncData} {ps : List Str} {g : M (List D)} {ds : List Value} {dvs : List V} {dd : List D} (tk : Takes X W) (hr : Room (k + 1) X.A) (nw : NwOk G X.prog X.w X.mg X.base k x c n B f fd ps)
    (hb : Binds G.K fd ps ds) (hd : Vals dvs ds) (hdd : ∀ F, RepL G F dd dvs) (ha : PA X (e :: es) (tA G W OX O O1 g)) (hx : ∀ i ∈ OX, i ∈ O1 := by decide) (hg : Gl X x := by rfl) (hK : X.K = G.K := by rfl) (hdb : (x == ("__debug__" : Str)) = false := by decide)
    (he : starEach (e :: es) X.env = (false, eval e X.env) :: starEach es X.env := by rfl) (hpl : (backTo pos (starEach es X.env)).any (·.1) = false := by rfl) : PE X (.Call (.Name x p) (e :: es) [] pos) (tE G W OX O O1 (eNd c B dd g)) := by
  refine ⟨fun pins s σ H Q I ⟨F, r, S, p⟩ => ?_⟩
  refine wpAny_Call_Name_kw (ld_glob I hg nw.at_ ?_ hdb)
  refine PySem.W.callWith_K (h₀ := X.base) I.ok.mod.kin (by rw [hK]; exact nw.mkd.kp) (thn (ha.run pos pins s σ H (fun vs H1 => ∃ ds F1 r1, Sta G O1 F1 H1 σ r1 ∧ RepL G F1 ds vs ∧ Pst G W OX O1 O1 σ F1 H1 (RD G) Q (outN (B (.ob c [] :: (ds ++ dd))) r1)) I
    (tX_bind S p fun ds vs F1 H1 r1 n1 rs p => ⟨ds, F1, r1, n1.sta, rs, p⟩)) fun us s1 ⟨vs, H1, I1, rv, zs, F1, r1, S1, rs, p⟩ => ⟨I1.kIn, ?_⟩) he hpl
  have Fk : FnOk X.prog X.w X.K X.mg X.base (L2.CX X.prog X.w) k f fd ps (spB G n [0] B) := by rw [hK]; exact nw.fn
  have hl := lenN nw.ar p
  have rs2 := rs.more hdd
  have rv2 := rv.append hd
  refine run_Nk (ds := zs ++ dd) (vs := vs ++ dvs) (us' := us ++ ds) tk Fk hr (by rw [hK]; exact nw.mkd) nw.imm (fun s x hk => ?_) I1 S1 rv2 rs2 nw.ar hx p
  have hb' : Binds X.K fd ps ds := by rw [hK]; exact hb
  refine hb' s (x :: us) hk ?_
  rw [nw.pl, ← hl, List.cons_append, List.length_cons, List.length_cons, vlen rv2, rs2.length]
/-- C() -/
theorem e_new0 {x : Str} {p pos : Pos} {k n c : Nat} {B : Beh} {f : Addr} {fd : FuncData} {ps : List Str} {ds : List Value} {dvs : List V} {dd : List D} (tk : Takes X W) (hr : Room (k + 1) X.A) (nw : NwOk G X.prog X.w X.mg X.base k x c n B f fd ps)
    (hb : Binds G.K fd ps ds) (hd : Vals dvs ds) (hdd : ∀ F, RepL G F dd dvs) (hx : ∀ i ∈ OX, i ∈ O := by decide) (hg : Gl X x := by rfl) (hK : X.K = G.K := by rfl) (hdb : (x == ("__debug__" : Str)) = false := by decide) :
    PE X (.Call (.Name x p) [] [] pos) (tE G W OX O O (eNd c B dd aNil)) := by
  refine ⟨fun pins s σ H Q I ⟨F, r, S, p⟩ => ?_⟩
  refine wpAny_Call_Name_kw (ld_glob I hg nw.at_ ?_ hdb)
  refine PySem.W.callWith_K0 I.kIn (by rw [hK]; exact nw.mkd.kp) ?_
  have Fk : FnOk X.prog X.w X.K X.mg X.base (L2.CX X.prog X.w) k f fd ps (spB G n [0] B) := by rw [hK]; exact nw.fn
  have p : Pst G W OX O O σ F H (RD G) Q (outN (B (.ob c [] :: dd)) r) := p
  have hl := lenN nw.ar p
  refine run_Nk (us := []) (ds := dd) (vs := dvs) (us' := ds) tk Fk hr (by rw [hK]; exact nw.mkd) nw.imm (fun s x hk => ?_) I S hd (hdd F) nw.ar hx p
  have hb' : Binds X.K fd ps ds := by rw [hK]; exact hb
  refine hb' s [x] hk ?_
  rw [nw.pl, ← hl, List.singleton_append, List.length_cons, List.length_cons, vlen hd, (hdd F).length]
/-- f(e, .., k = v, ..) -/
theorem e_callK {x : Str} {p pos : Pos} {e : Expr} {es : List Expr} {kws : List Keyword} {k n m a : Nat} {B : Beh} {f : Addr} {fd : FuncData} {ps ks : List Str} {g h : M (List D)} {o : List Nat} {ds : List Value} {dvs : List V} {dd : List D} (tk : Takes X W) (hr : Room k X.A) (gl : GlOk G X.prog X.w X.mg X.base k x a [] B f fd ps)
    (hb : BindK G.K fd ps n ks o ds) (hd : Vals dvs ds) (hdd : ∀ F, RepL G F dd dvs) (ha : PA X (e :: es) (tA G W OX O O1 g)) (hkw : PK X kws (tA G W OX O1 O2 h)) (hm : ks.length = m := by rfl) (hx : ∀ i ∈ OX, i ∈ O2 := by decide) (hg : Gl X x := by rfl) (hK : X.K = G.K := by rfl) (hdb : (x == ("__debug__" : Str)) = false := by decide)
    (hall : (backToKw pos (keywordEach kws X.env)).all (·.1.isSome) = true := by rfl) (hks : (backToKw pos (keywordEach kws X.env)).filterMap (·.1) = ks := by rfl) (he : starEach (e :: es) X.env = (false, eval e X.env) :: starEach es X.env := by rfl)
    (hpl : ((backTo pos (starEach (e :: es) X.env)).any (·.1) || (backToKw pos (keywordEach kws X.env)).any (·.1.isNone)) = false := by rfl) : PE X (.Call (.Name x p) (e :: es) kws pos) (tE G W OX O O2 (eCk B n m o dd g h)) := by
  refine ⟨fun pins s σ H Q I ⟨F, r, S, p⟩ => ?_⟩
  refine wpAny_Call_Name_kw (ld_glob I hg gl.at_ ?_ hdb)
  refine cw1 (first := []) (k := fun ds zs r2 => if ds.length = n ∧ zs.length = m then out0 (B (permL o (ds ++ zs ++ dd))) r2 else .no) (by rw [hK]; exact gl.kp) ha hkw I S p (fun ds' zs vs ys us ws s2 F2 H2 r2 I2 n2 rs rz rv rw' p => ?_) hall hks he hpl
  split at p
  · rename_i hl
    obtain ⟨h1, h2⟩ := hl
    have Fk : FnOk X.prog X.w X.K X.mg X.base (L2.CX X.prog X.w) k f fd ps (spB G a [] B) := by rw [hK]; exact gl.fn
    have rp := ((rs.app rz).app (hdd F2)).perm o
    have bt : BindK X.K fd ps n ks o ds := by rw [hK]; exact hb
    exact run_Bk tk Fk hr (bt s2 us ws I2.kIn (by rw [vlen rv, ← rs.length, h1]) (by rw [vlen rw', ← rz.length, h2, hm])) I2 (Vals.perm ((rv.append rw').append hd) o) (spB_of hx n2.sta rp (len_of gl.ar rp p) p)
  · exact p.elim
theorem e_callK0 {x : Str} {p pos : Pos} {kws : List Keyword} {k m a : Nat} {B : Beh} {f : Addr} {fd : FuncData} {ps ks : List Str} {h : M (List D)} {o : List Nat} {ds : List Value} {dvs : List V} {dd : List D} (tk : Takes X W) (hr : Room k X.A) (gl : GlOk G X.prog X.w X.mg X.base k x a [] B f fd ps)
    (hb : BindK G.K fd ps 0 ks o ds) (hd : Vals dvs ds) (hdd : ∀ F, RepL G F dd dvs) (hkw : PK X kws (tA G W OX O O2 h)) (hm : ks.length = m := by rfl) (hx : ∀ i ∈ OX, i ∈ O2 := by decide) (hg : Gl X x := by rfl) (hK : X.K = G.K := by rfl) (hdb : (x == ("__debug__" : Str)) = false := by decide)
    (hall : (backToKw pos (keywordEach kws X.env)).all (·.1.isSome) = true := by rfl) (hks : (backToKw pos (keywordEach kws X.env)).filterMap (·.1) = ks := by rfl)
    (hpl : ((backTo pos (starEach [] X.env)).any (·.1) || (backToKw pos (keywordEach kws X.env)).any (·.1.isNone)) = false := by rfl) : PE X (.Call (.Name x p) [] kws pos) (tE G W OX O O2 (eCk B 0 m o dd aNil h)) := by
  refine ⟨fun pins s σ H Q I ⟨F, r, S, p⟩ => ?_⟩
  refine wpAny_Call_Name_kw (ld_glob I hg gl.at_ ?_ hdb)
  refine cw0 (first := []) (k := fun ds zs r2 => if ds.length = 0 ∧ zs.length = m then out0 (B (permL o (ds ++ zs ++ dd))) r2 else .no) (by rw [hK]; exact gl.kp) hkw I S p (fun ds' zs vs ys us ws s2 F2 H2 r2 I2 n2 rs rz rv rw' p => ?_) hall hks hpl
  split at p
  · rename_i hl
    obtain ⟨h1, h2⟩ := hl
    have Fk : FnOk X.prog X.w X.K X.mg X.base (L2.CX X.prog X.w) k f fd ps (spB G a [] B) := by rw [hK]; exact gl.fn
    have rp := ((rs.app rz).app (hdd F2)).perm o
    have bt : BindK X.K fd ps 0 ks o ds := by rw [hK]; exact hb
    exact run_Bk tk Fk hr (bt s2 us ws I2.kIn (by rw [vlen rv, ← rs.length, h1]) (by rw [vlen rw', ← rz.length, h2, hm])) I2 (Vals.perm ((rv.append rw').append hd) o) (spB_of hx n2.sta rp (len_of gl.ar rp p) p)
  · exact p.elim
theorem permL_cons {α : Type} (z : α) (l : List α) (o : List Nat) : permL (0 :: o.map (· + 1)) (z :: l) = z :: permL o l := by
  unfold permL
  rw [List.filterMap_cons]
  simp only [List.getElem?_cons_zero]
  congr 1
  rw [List.filterMap_map]
  congr 1
/-- C(e, .., k = v, ..) -/
theorem e_newK {x : Str} {p pos : Pos} {e : Expr} {es : List Expr} {kws : List Keyword} {k n m a c : Nat} {B : Beh} {f : Addr} {fd : FuncData} {ps ks : List Str} {g h : M (List D)} {o : List Nat} {ds : List Value} {dvs : List V} {dd : List D} (tk : Takes X W) (hr : Room (k + 1) X.A) (nw : NwOk G X.prog X.w X.mg X.base k x c a B f fd ps)
    (hb : BindK G.K fd ps (n + 1) ks (0 :: o.map (· + 1)) ds) (hd : Vals dvs ds) (hdd : ∀ F, RepL G F dd dvs) (ha : PA X (e :: es) (tA G W OX O O1 g)) (hkw : PK X kws (tA G W OX O1 O2 h)) (hm : ks.length = m := by rfl) (hx : ∀ i ∈ OX, i ∈ O2 := by decide) (hg : Gl X x := by rfl) (hK : X.K = G.K := by rfl) (hdb : (x == ("__debug__" : Str)) = false := by decide)
    (hall : (backToKw pos (keywordEach kws X.env)).all (·.1.isSome) = true := by rfl) (hks : (backToKw pos (keywordEach kws X.env)).filterMap (·.1) = ks := by rfl) (he : starEach (e :: es) X.env = (false, eval e X.env) :: starEach es X.env := by rfl)
    (hpl : ((backTo pos (starEach (e :: es) X.env)).any (·.1) || (backToKw pos (keywordEach kws X.env)).any (·.1.isNone)) = false := by rfl) : PE X (.Call (.Name x p) (e :: es) kws pos) (tE G W OX O O2 (eNk c B n m o dd g h)) := by
  refine ⟨fun pins s σ H Q I ⟨F, r, S, p⟩ => ?_⟩
  refine wpAny_Call_Name_kw (ld_glob I hg nw.at_ ?_ hdb)
  refine cw1 (first := []) (k := fun ds zs r2 => if ds.length = n ∧ zs.length = m then outN (B (.ob c [] :: permL o (ds ++ zs ++ dd))) r2 else .no) (by rw [hK]; exact nw.mkd.kp) ha hkw I S p (fun ds' zs vs ys us ws s2 F2 H2 r2 I2 n2 rs rz rv rw' p => ?_) hall hks he hpl
  split at p
  · rename_i hl
    obtain ⟨h1, h2⟩ := hl
    have Fk : FnOk X.prog X.w X.K X.mg X.base (L2.CX X.prog X.w) k f fd ps (spB G a [0] B) := by rw [hK]; exact nw.fn
    have rp := ((rs.app rz).app (hdd F2)).perm o
    have bt : BindK X.K fd ps (n + 1) ks (0 :: o.map (· + 1)) ds := by rw [hK]; exact hb
    refine run_Nk tk Fk hr (by rw [hK]; exact nw.mkd) nw.imm (fun s x hk => ?_) I2 n2.sta (Vals.perm ((rv.append rw').append hd) o) rp nw.ar hx p
    have q := bt s (x :: us) ws hk (by rw [List.length_cons, vlen rv, ← rs.length, h1]) (by rw [vlen rw', ← rz.length, h2, hm])
    rw [List.cons_append, List.cons_append, permL_cons] at q
    exact q
  · exact p.elim

/-! ### methods -/
structure MtOk (G : Gm) (P : Program) (w : World) (mg : Str → Option Value) (base : Heap) (k : Nat) (c : Nat) (m : Str) (n : Nat) (B : Beh) (f : Addr) (fd : FuncData) (ps : List Str) (ds : List Value) (dvs : List V) : Prop where
  cl : Cls G.K (G.cA c)
  me : Meth G.K (G.cA c) m f
  fn : FnB P w G mg base k f fd ps n [] B
  ar : ∀ ds, ds.length ≠ n → B ds = .no
  bd : Binds G.K fd ps ds
  dv : Vals dvs ds
theorem look_m {F H : Hp} {c : Nat} {l : List D} {v : V} {σ : L2.St} {r : Ev} (S : Sta G O F H σ r) (h : Rep G F (.ob c l) v) {m : Str} (hm : m ∉ G.flds) : ∃ a dx fs, v = .ref a ∧ H a = some (.ins (G.cA c) dx fs) ∧ fs.lookup m = none := by
  cases h with
  | @ob _ _ a dx xs more h hl rr =>
    obtain ⟨o', e', gr⟩ := S.sub _ _ h
    obtain ⟨q, eo⟩ := gr.ins
    subst eo
    refine ⟨a, dx, _, rfl, e', ?_⟩
    cases z : (List.lookup m ((G.lay c).zip xs ++ more ++ q)) with
    | none => rfl
    | some u => exact absurd (S.wf _ _ _ _ m e' (by rw [z]; exact fun w => nomatch w)) hm
theorem onMt_of {tb : List (Nat × Beh)} {x : D} {k : Beh → Out D} {σ : L2.St} {F H : Hp} {Q : VK} (p : Pst G W OX O O1 σ F H (RD G) Q (onMt tb x k)) : ∃ c l B, x = .ob c l ∧ tb.lookup c = some B ∧ Pst G W OX O O1 σ F H (RD G) Q (k fun ds => B (.ob c l :: ds)) := by
  unfold onMt at p
  split at p
  · split at p
    · rename_i B e
      exact ⟨_, _, B, rfl, e, p⟩
    · exact p.elim
  · exact p.elim
/-- o.m(e, ..); every class's def takes the same defaults -/
theorem e_meth {o e : Expr} {es : List Expr} {m : Str} {apos pos : Pos} {pl : Sem Bool} {k : Nat} {g : M D} {h : M (List D)} {dd : List D} (tb : List (Nat × Beh)) (tk : Takes X W) (hr : Room k X.A) (hm : m ∉ G.flds) (ho : PE X o (tE G W OX O O1 g)) (ha : PA X (e :: es) (tA G W OX O1 O2 h))
    (ht : ∀ c B, tb.lookup c = some B → ∃ n f fd ps ds dvs, MtOk G X.prog X.w X.mg X.base k c m n B f fd ps ds dvs ∧ ∀ F, RepL G F dd dvs) (hx : ∀ i ∈ OX, i ∈ O2 := by decide) (hK : X.K = G.K := by rfl)
    (hst : starEach (e :: es) X.env = (false, eval e X.env) :: starEach es X.env := by rfl) (hpl : (backTo pos (starEach es X.env)).any (·.1) = false := by rfl)
    (hev : eval (.Call (.Attribute o m apos) (e :: es) [] pos) X.env = (do
      let ov ← eval o X.env
      standAt apos.atName
      let (fm, fst) ← holding [ov] (getMethod ov m pl)
      callWith pos fm fst (backTo pos (starEach (e :: es) X.env)) (backToKw pos (keywordEach [] X.env))) := by rfl) : PE X (.Call (.Attribute o m apos) (e :: es) [] pos) (tE G W OX O O2 (eMd tb dd g h)) := by
  refine ⟨fun pins s σ H Q I ⟨F, r, S, p⟩ => ?_⟩
  refine PySem.W.methodCall_KW (pl := pl) (thn (ho.run pins s σ H (fun v H1 => ∃ x F1 r1, Nx G OX O O1 σ F H σ F1 H1 r1 ∧ Rep G F1 x v ∧ Pst G W OX O1 O2 σ F1 H1 (RD G) Q (onMt tb x fun B => (h r1).bind fun ds r2 => out0 (B (ds ++ dd)) r2)) I
    (tX_bind S p fun x v F1 H1 r1 n1 rx p => ⟨x, F1, r1, n1, rx, p⟩)) fun u s1 ⟨v, H1, I1, ru, x, F1, r1, n1, rx, p⟩ => ?_) hev
  obtain ⟨c, l, B, rfl, e1, p⟩ := onMt_of p
  obtain ⟨n, f, fd, ps, ds, dvs, M, hdd⟩ := ht c B e1
  obtain ⟨a, dx, fs, rfl, ea, el⟩ := look_m n1.sta rx hm
  obtain rfl : u = Value.ref a := ru
  refine getmeth_ok I1 ea (by rw [hK]; exact M.cl) (by rw [hK]; exact M.me) el ?_
  refine PySem.W.callWith_K (first := [.ref a]) (h₀ := X.base) I.ok.mod.kin (by rw [hK]; exact M.me.kp) (thn (ha.run pos pins s1 σ H1 (fun vs H2 => ∃ zs F2 r2, Nx G OX O1 O2 σ F1 H1 σ F2 H2 r2 ∧ RepL G F2 zs vs ∧ Pst G W OX O2 O2 σ F2 H2 (RD G) Q (out0 (B (.ob c l :: (zs ++ dd))) r2)) I1
    (tX_bind n1.sta p fun zs vs F2 H2 r2 n2 rs p => ⟨zs, F2, r2, n2, rs, p⟩)) fun us s2 ⟨vs, H2, I2, rv, zs, F2, r2, n2, rs, p⟩ => ⟨I2.kIn, ?_⟩) hst hpl
  have Fk : FnOk X.prog X.w X.K X.mg X.base (L2.CX X.prog X.w) k f fd ps (spB G n [] B) := by rw [hK]; exact M.fn
  have rr := RepL.cons (rx.mono n2.stp.fz) (rs.more hdd)
  exact run_B (us := .ref a :: us) (vs := .ref a :: vs) tk Fk hr (by rw [hK]; exact M.bd) M.dv I2 (.cons rfl rv) (spB_of hx n2.sta rr (len_of M.ar rr p) p)
theorem e_meth0 {o : Expr} {m : Str} {apos pos : Pos} {pl : Sem Bool} {k : Nat} {g : M D} {dd : List D} (tb : List (Nat × Beh)) (tk : Takes X W) (hr : Room k X.A) (hm : m ∉ G.flds) (ho : PE X o (tE G W OX O O1 g))
    (ht : ∀ c B, tb.lookup c = some B → ∃ n f fd ps ds dvs, MtOk G X.prog X.w X.mg X.base k c m n B f fd ps ds dvs ∧ ∀ F, RepL G F dd dvs) (hx : ∀ i ∈ OX, i ∈ O1 := by decide) (hK : X.K = G.K := by rfl)
    (hev : eval (.Call (.Attribute o m apos) [] [] pos) X.env = (do
      let ov ← eval o X.env
      standAt apos.atName
      let (fm, fst) ← holding [ov] (getMethod ov m pl)
      callWith pos fm fst (backTo pos (starEach [] X.env)) (backToKw pos (keywordEach [] X.env))) := by rfl) : PE X (.Call (.Attribute o m apos) [] [] pos) (tE G W OX O O1 (eMd tb dd g aNil)) := by
  refine ⟨fun pins s σ H Q I ⟨F, r, S, p⟩ => ?_⟩
  refine PySem.W.methodCall_KW (pl := pl) (thn (ho.run pins s σ H (fun v H1 => ∃ x F1 r1, Nx G OX O O1 σ F H σ F1 H1 r1 ∧ Rep G F1 x v ∧ Pst G W OX O1 O1 σ F1 H1 (RD G) Q (onMt tb x fun B => out0 (B dd) r1)) I
    (tX_bind S p fun x v F1 H1 r1 n1 rx p => ⟨x, F1, r1, n1, rx, p⟩)) fun u s1 ⟨v, H1, I1, ru, x, F1, r1, n1, rx, p⟩ => ?_) hev
  obtain ⟨c, l, B, rfl, e1, p⟩ := onMt_of p
  obtain ⟨n, f, fd, ps, ds, dvs, M, hdd⟩ := ht c B e1
  obtain ⟨a, dx, fs, rfl, ea, el⟩ := look_m n1.sta rx hm
  obtain rfl : u = Value.ref a := ru
  refine getmeth_ok I1 ea (by rw [hK]; exact M.cl) (by rw [hK]; exact M.me) el ?_
  have Fk : FnOk X.prog X.w X.K X.mg X.base (L2.CX X.prog X.w) k f fd ps (spB G n [] B) := by rw [hK]; exact M.fn
  have rr := RepL.cons rx (hdd F1)
  exact PySem.W.callWith_K0 (first := [.ref a]) I1.kIn (by rw [hK]; exact M.me.kp) (run_B (us := [.ref a]) (vs := [.ref a]) tk Fk hr (by rw [hK]; exact M.bd) M.dv I1 (.cons rfl .nil) (spB_of hx n1.sta rr (len_of M.ar rr p) p))
/-- o.m(e, .., k = v, ..) of one class -/
theorem e_methK {o e : Expr} {es : List Expr} {kws : List Keyword} {m : Str} {apos pos : Pos} {pl : Sem Bool} {k n q : Nat} {ks : List Str} {g : M D} {h h2 : M (List D)} {dd : List D} {od : List Nat} (tb : List (Nat × Beh)) (tk : Takes X W) (hr : Room k X.A) (hm : m ∉ G.flds) (ho : PE X o (tE G W OX O O1 g)) (ha : PA X (e :: es) (tA G W OX O1 O2 h)) (hkw : PK X kws (tA G W OX O2 O3 h2))
    (ht : ∀ c B, tb.lookup c = some B → ∃ a f fd ps ds ds' dvs dvs', MtOk G X.prog X.w X.mg X.base k c m a B f fd ps ds' dvs' ∧ BindK G.K fd ps (n + 1) ks (0 :: od.map (· + 1)) ds ∧ Vals dvs ds ∧ ∀ F, RepL G F dd dvs) (hq : ks.length = q := by rfl) (hx : ∀ i ∈ OX, i ∈ O3 := by decide) (hK : X.K = G.K := by rfl)
    (hall : (backToKw pos (keywordEach kws X.env)).all (·.1.isSome) = true := by rfl) (hks : (backToKw pos (keywordEach kws X.env)).filterMap (·.1) = ks := by rfl) (he : starEach (e :: es) X.env = (false, eval e X.env) :: starEach es X.env := by rfl)
    (hpl : ((backTo pos (starEach (e :: es) X.env)).any (·.1) || (backToKw pos (keywordEach kws X.env)).any (·.1.isNone)) = false := by rfl)
    (hev : eval (.Call (.Attribute o m apos) (e :: es) kws pos) X.env = (do
      let ov ← eval o X.env
      standAt apos.atName
      let (fm, fst) ← holding [ov] (getMethod ov m pl)
      callWith pos fm fst (backTo pos (starEach (e :: es) X.env)) (backToKw pos (keywordEach kws X.env))) := by rfl) : PE X (.Call (.Attribute o m apos) (e :: es) kws pos) (tE G W OX O O3 (eMk tb n q od dd g h h2)) := by
  refine ⟨fun pins s σ H Q I ⟨F, r, S, p⟩ => ?_⟩
  refine PySem.W.methodCall_KW (pl := pl) (thn (ho.run pins s σ H (fun v H1 => ∃ x F1 r1, Nx G OX O O1 σ F H σ F1 H1 r1 ∧ Rep G F1 x v ∧ Pst G W OX O1 O3 σ F1 H1 (RD G) Q (onMt tb x fun B => (h r1).bind fun ds r2 => (h2 r2).bind fun zs r3 => if ds.length = n ∧ zs.length = q then out0 (B (permL od (ds ++ zs ++ dd))) r3 else .no)) I
    (tX_bind S p fun x v F1 H1 r1 n1 rx p => ⟨x, F1, r1, n1, rx, p⟩)) fun u s1 ⟨v, H1, I1, ru, x, F1, r1, n1, rx, p⟩ => ?_) hev
  obtain ⟨c, l, B, rfl, e1, p⟩ := onMt_of p
  obtain ⟨ar, f, fd, ps, ds, ds', dvs, dvs', M, hb, hd, hdd⟩ := ht c B e1
  obtain ⟨a, dx, fs, rfl, ea, el⟩ := look_m n1.sta rx hm
  obtain rfl : u = Value.ref a := ru
  refine getmeth_ok I1 ea (by rw [hK]; exact M.cl) (by rw [hK]; exact M.me) el ?_
  refine cw1 (first := [.ref a]) (k := fun ds zs r2 => if ds.length = n ∧ zs.length = q then out0 (B (.ob c l :: permL od (ds ++ zs ++ dd))) r2 else .no) (by rw [hK]; exact M.me.kp) ha hkw I1 n1.sta p (fun ds' zs vs ys us ws s2 F2 H2 r2 I2 n2 rs rz rv rw' p => ?_) hall hks he hpl
  split at p
  · rename_i hl
    obtain ⟨h1, h2⟩ := hl
    have Fk : FnOk X.prog X.w X.K X.mg X.base (L2.CX X.prog X.w) k f fd ps (spB G ar [] B) := by rw [hK]; exact M.fn
    have rp := RepL.cons (rx.mono n2.stp.fz) (((rs.app rz).app (hdd F2)).perm od)
    have bt : BindK X.K fd ps (n + 1) ks (0 :: od.map (· + 1)) ds := by rw [hK]; exact hb
    have q2 := bt s2 (.ref a :: us) ws I2.kIn (by rw [List.length_cons, vlen rv, ← rs.length, h1]) (by rw [vlen rw', ← rz.length, h2, hq])
    rw [List.cons_append, List.cons_append, permL_cons] at q2
    exact run_Bk tk Fk hr q2 I2 (.cons (show L2.RelV (V.ref a) (Value.ref a) from rfl) (Vals.perm ((rv.append rw').append hd) od)) (spB_of hx n2.sta rp (len_of M.ar rp p) p)
  · exact p.elim

/-! ### static methods -/
structure StOk (G : Gm) (P : Program) (w : World) (mg : Str → Option Value) (base : Heap) (k : Nat) (x : Str) (C : Addr) (m : Str) (n : Nat) (B : Beh) (f : Addr) (fd : FuncData) (ps : List Str) : Prop where
  at_ : mg x = some (.ref C)
  rd : PySem.W.readsIn G.K C (.type "type") = true
  ga : PySem.W.specialIn G.K (.ref C) "__getattribute__" = some (some (.builtin "type.__getattribute__"))
  fc : ∃ p rest, PySem.W.findCls G.K (.ref C) (.type "type") m = some (.get (.builtin "staticmethod.__get__") (.ref p) .none (.ref C)) ∧ PySem.W.recIn G.K p "staticmethod" = some (.ref f :: rest)
  kp : PySem.W.keepIn G.K (.ref f) = true
  fn : FnB P w G mg base k f fd ps n [] B
  ar : ∀ ds, ds.length ≠ n → B ds = .no
theorem stat_get {A : Around} {E : Value → Shared → Prop} {pins : List (Addr × Obj)} {s : Shared} {σ : L2.St} {H : Hp} {k n : Nat} {x m : Str} {C f : Addr} {fd : FuncData} {ps : List Str} {B : Beh} {pl : Sem Bool} {Q : Value × List Value → Shared → Prop} (st : StOk G X.prog X.w X.mg X.base k x C m n B f fd ps) (hK : X.K = G.K) (I : Inv X pins σ H s)
    (h : ∀ s', Inv X pins σ H s' → Q (.ref f, []) s') : wpAny (model X.prog X.w) A (getMethod (.ref C) m pl) Q E s := by
  obtain ⟨p, rest, h1, h2⟩ := st.fc
  refine PySem.W.method_cls I.kIn (by rw [hK]; exact st.ga) ?_
  refine PySem.W.cls_bind I.kIn (by rw [hK]; exact st.rd) (by rw [hK]; exact h1) ?_
  refine wpAny_call (PySem.W.sm_get (s := { s with toks := s.toks + 1 }) I.kIn (by rw [hK]; exact h2) (PySem.W.handed_on rfl ?_))
  exact h _ (I.tok _)
theorem e_stat {x m : Str} {xpos apos pos : Pos} {e : Expr} {es : List Expr} {k n : Nat} {B : Beh} {C f : Addr} {fd : FuncData} {ps : List Str} {g : M (List D)} {ds : List Value} {dvs : List V} {dd : List D} {pl : Sem Bool} (tk : Takes X W) (hr : Room k X.A) (st : StOk G X.prog X.w X.mg X.base k x C m n B f fd ps)
    (hb : Binds G.K fd ps ds) (hd : Vals dvs ds) (hdd : ∀ F, RepL G F dd dvs) (ha : PA X (e :: es) (tA G W OX O O1 g)) (hx : ∀ i ∈ OX, i ∈ O1 := by decide) (hg : Gl X x := by rfl) (hK : X.K = G.K := by rfl) (hdb : (x == ("__debug__" : Str)) = false := by decide)
    (he : starEach (e :: es) X.env = (false, eval e X.env) :: starEach es X.env := by rfl) (hpl : (backTo pos (starEach es X.env)).any (·.1) = false := by rfl)
    (hev : eval (.Call (.Attribute (.Name x xpos) m apos) (e :: es) [] pos) X.env = (do
      let ov ← eval (.Name x xpos) X.env
      standAt apos.atName
      let (fm, fst) ← holding [ov] (getMethod ov m pl)
      callWith pos fm fst (backTo pos (starEach (e :: es) X.env)) (backToKw pos (keywordEach [] X.env))) := by rfl) : PE X (.Call (.Attribute (.Name x xpos) m apos) (e :: es) [] pos) (tE G W OX O O1 (eCd B dd g)) := by
  refine ⟨fun pins s σ H Q I ⟨F, r, S, p⟩ => ?_⟩
  refine PySem.W.methodCall_KW (pl := pl) (ld_glob I hg st.at_ ?_ hdb) hev
  refine stat_get st hK I fun s1 I1 => ?_
  refine PySem.W.callWith_K (first := []) (h₀ := X.base) I.ok.mod.kin (by rw [hK]; exact st.kp) (thn (ha.run pos pins s1 σ H (fun vs H1 => ∃ ds F1 r1, Sta G O1 F1 H1 σ r1 ∧ RepL G F1 ds vs ∧ Pst G W OX O1 O1 σ F1 H1 (RD G) Q (out0 (B (ds ++ dd)) r1)) I1
    (tX_bind S p fun ds vs F1 H1 r1 n1 rs p => ⟨ds, F1, r1, n1.sta, rs, p⟩)) fun us s1 ⟨vs, H1, I1, rv, ds, F1, r1, S1, rs, p⟩ => ⟨I1.kIn, ?_⟩) he hpl
  have Fk : FnOk X.prog X.w X.K X.mg X.base (L2.CX X.prog X.w) k f fd ps (spB G n [] B) := by rw [hK]; exact st.fn
  exact run_B tk Fk hr (by rw [hK]; exact hb) hd I1 rv (spB_of hx S1 (rs.more hdd) (len_of st.ar (rs.more hdd) p) p)
end
end Z

/-! Targets, iterables, loops, comprehensions. -/
namespace Z
open PySem PySem.Spec PyProof.Rows L2

/-! ### targets -/
abbrev Tg := D → Ev → Option Ev
@[simp] def gN (i : Nat) : Tg := fun d r => some (r.set i (some d))
def gTs : List Tg → List D → Ev → Option Ev
  | [], [], r => some r
  | g :: gs, d :: l, r => (g d r).bind (gTs gs l)
  | _, _, _ => none
@[simp] def gT (gs : List Tg) : Tg := fun d r => (itemsOf d).bind fun l => gTs gs l r
/-- the slots of vs alone change -/
def tG (G : Gm) (OX vs O O' : List Nat) (g : Tg) : TG := fun v σ H Q => ∃ F r d r', Sta G O F H σ r ∧ Rep G F d v ∧ g d r = some r' ∧ ∀ σ', Nx G OX O O' σ F H σ' F H r' → wipe σ' vs = wipe σ vs → Q σ' H
def tGs (G : Gm) (OX vs O O' : List Nat) (gs : List Tg) : TGs := fun xs σ H Q => ∃ F r l r', Sta G O F H σ r ∧ RepL G F l xs ∧ gTs gs l r = some r' ∧ ∀ σ', Nx G OX O O' σ F H σ' F H r' → wipe σ' vs = wipe σ vs → Q σ' H
theorem wipe_set {σ : L2.St} {i : Nat} {x : Option V} : ∀ {vs : List Nat}, i ∈ vs → wipe (σ.set i x) vs = wipe σ vs
  | v :: vs, h => by
    unfold wipe
    by_cases m : i ∈ vs
    · rw [wipe_set m]
    · have e : i = v := by
        rcases List.mem_cons.mp h with z | z
        · exact z
        · exact absurd z m
      subst e
      have key : ∀ (l : List Nat) (σ : L2.St), i ∉ l → wipe (σ.set i x) l = (wipe σ l).set i x := by
        intro l
        induction l with
        | nil => exact fun _ _ => rfl
        | cons a l ih =>
          intro σ hn
          have h1 : i ≠ a := fun z => hn (by rw [z]; exact List.mem_cons_self)
          unfold wipe
          rw [ih σ fun z => hn (List.mem_cons_of_mem _ z), List.set_comm _ _ h1]
      rw [key vs σ m, List.set_set]
section
variable {G : Gm} {X : Cx} {W : WX} {OX OL vs O O1 O2 O3 : List Nat}
theorem _root_.L2.PG.mo {tg : Expr} {t t' : TG} (h : PG X tg t) (i : ∀ v σ H Q, t' v σ H Q → t v σ H Q) : PG X tg t' := ⟨fun pins s σ H v u Q I r q => h.run pins s σ H v u Q I r (i v σ H Q q)⟩
theorem _root_.L2.PGs.mo {tg : List Expr} {t t' : TGs} (h : PGs X tg t) (i : ∀ v σ H Q, t' v σ H Q → t v σ H Q) : PGs X tg t' := ⟨fun pins s σ H v u Q I r q => h.run pins s σ H v u Q I r (i v σ H Q q)⟩
theorem nx_set {σ : L2.St} {F H : Hp} {r : Ev} {d : D} {v : V} (i : Nat) (S : Sta G O F H σ r) (h : Rep G F d v) (hx : i ∉ OX) : Nx G OX O (O.filter (· != i)) σ F H (σ.set i (some v)) F H (r.set i (some d)) := by
  refine ⟨S.set i h, .rfl', fun j hj => ?_, fun a m => ?_⟩
  · exact List.getElem?_set_ne (fun z : i = j => hx (by rw [z]; exact hj))
  · obtain ⟨j, hj, e⟩ := m
    obtain ⟨h1, h2⟩ := List.mem_filter.mp hj
    have q : i ≠ j := fun z => by simp [z] at h2
    rw [List.getElem?_set_ne q] at e
    exact .inl ⟨j, h1, e⟩
theorem g_name {x : Str} {pos : Pos} (i : Nat) (hx : i ∉ OX := by decide) (hv : i ∈ vs := by decide) (hN : X.N.Nodup := by first | assumption | decide +kernel) (hi : X.N[i]? = some x := by rfl) (hl : Loc X.env.scope x := by first | exact Or.inl rfl | exact Or.inr rfl)
    (hf : X.fn x = true ∨ X.env.scope.names.lookup x = some .local := by first | exact .inl rfl | exact .inr rfl | assumption) : PG X (.Name x pos) (tG G OX vs O (O.filter (· != i)) (gN i)) :=
  (pg_name hN hi hl hf).mo fun v σ H Q ⟨F, r, d, r', S, rd, e, q⟩ => by
    cases e
    exact q _ (nx_set i S rd hx) (wipe_set hv)
theorem gs_nil : PGs X [] (tGs G OX vs O O []) := pgs_nil.mo fun xs σ H Q ⟨F, r, l, r', S, rl, e, q⟩ => by
  cases rl with
  | nil =>
    cases e
    exact ⟨rfl, q σ (Nx.rfl' S) rfl⟩
  | cons _ _ => cases e
theorem gs_cons {e : Expr} {es : List Expr} {g : Tg} {gs : List Tg} (h1 : PG X e (tG G OX vs O O1 g)) (h2 : PGs X es (tGs G OX vs O1 O2 gs)) (hs : (assignEach (e :: es) X.env).map (·.2) = assign e X.env :: (assignEach es X.env).map (·.2) := by rfl) :
    PGs X (e :: es) (tGs G OX vs O O2 (g :: gs)) :=
  (pgs_cons h1 h2 hs).mo fun xs σ H Q ⟨F, r, l, r', S, rl, e, q⟩ => by
    cases rl with
    | nil => cases e
    | @cons d l v xs hd ht =>
      rw [gTs] at e
      obtain ⟨r1, e1, e2⟩ := Option.bind_eq_some_iff.mp e
      exact ⟨v, xs, rfl, F, r, d, r1, S, hd, e1, fun σ1 n1 w1 => ⟨F, r1, l, r', n1.sta, ht, e2, fun σ2 n2 w2 => q σ2 (n1.trans n2) (w2.trans w1)⟩⟩
theorem g_tup {es : List Expr} {k : Nat} {pos : Pos} {gs : List Tg} (h : PGs X es (tGs G OX vs O O1 gs)) (hc : X.calm = true := by rfl) (hn : (assignEach es X.env).length = gs.length := by rfl) (hst : (assignEach es X.env).findIdx? (·.1) = none := by rfl) (hK : X.K = G.K := by rfl) :
    PG X (.Tuple es k pos) (tG G OX vs O O1 (gT gs)) := by
  refine ⟨fun pins s σ H v u Q I r q => ?_⟩
  obtain ⟨F, rr, d, r', S, rd, e, q⟩ := q
  obtain ⟨l, e1, e2⟩ := Option.bind_eq_some_iff.mp e
  have hl : ∀ (gs : List Tg) (l : List D) (r r' : Ev), gTs gs l r = some r' → l.length = gs.length := by
    intro gs
    induction gs with
    | nil =>
      intro l r r' e
      cases l with
      | nil => rfl
      | cons => cases e
    | cons g gs ih =>
      intro l r r' e
      cases l with
      | nil => cases e
      | cons d l =>
        rw [gTs] at e
        obtain ⟨r1, _, e2⟩ := Option.bind_eq_some_iff.mp e
        rw [List.length_cons, List.length_cons, ih l r1 r' e2]
  obtain ⟨a, xs, rfl, hq, rl⟩ := rd.items S.sub e1
  have hlen : xs.length = gs.length := by rw [← rl.length]; exact hl gs l rr r' e2
  rcases hq with hq | hq
  · exact (pg_lst hc h hn hst).run pins s σ H _ u Q I r ⟨a, xs, rfl, by rw [hK]; exact hq, hlen, F, rr, l, r', S, rl, e2, q⟩
  · exact (pg_tup hc h hn hst).run pins s σ H _ u Q I r ⟨a, xs, rfl, by rw [hK]; exact hq, hlen, F, rr, l, r', S, rl, e2, q⟩

/-! ### what is walked -/
def YD (G : Gm) (F : Hp) (l : List D) : Nat → Hp → V → Hp → Prop := fun i H x H' => ∃ d, l[i]? = some d ∧ ((H' = H ∧ Rep G F d x) ∨ ∃ T xs ds, d = .tup ds ∧ x = .ref T ∧ H T = none ∧ H' = upd H T (.tup xs) ∧ RepL G F ds xs)
def RI (G : Gm) : Hp → Hp → List D → It → Prop := fun F _ l J => Walk J l.length (fun H => Sub F H) (YD G F l)
abbrev iIt (G : Gm) (W : WX) (OX O O' : List Nat) (f : M (List D)) : TI := fun σ H R => tX G W OX O O' (RI G) f σ H R
theorem _root_.L2.PI.mo {tg it : Expr} {t t' : TI} (h : PI X tg it t) (i : ∀ σ H Q, t' σ H Q → t σ H Q) : PI X tg it t' := ⟨fun pins s σ H Q I q => h.run pins s σ H Q I (i σ H Q q)⟩
@[simp] def itL (f : M D) : M (List D) := fun r => (f r).bind fun x r1 => match itemsOf x with
  | some l => .ok l r1
  | none => .no
def rng (a b : Int) : List D := (List.range (b - a).toNat).map fun i => .int (a + (i : Nat))
def pRng : List D → Option (List D)
  | [.int b] => if -(2 ^ 62) ≤ b ∧ b < 2 ^ 62 then some (rng 0 b) else none
  | _ => none
def pRng2 : List D → Option (List D)
  | [.int a, .int b] => if -(2 ^ 62) ≤ a ∧ a < 2 ^ 62 ∧ -(2 ^ 62) ≤ b ∧ b < 2 ^ 62 then some (rng a b) else none
  | _ => none
def enuD (l : List D) : List D := l.zipIdx.map fun p => .tup [.int (p.2 : Nat), p.1]
def pEnu : List D → Option (List D)
  | [.lst l] => some (enuD l)
  | [.kl l] => some (enuD l)
  | _ => none
def zipD (l m : List D) : List D := (l.zip m).map fun p => .tup [p.1, p.2]
def isTupD : D → Bool
  | .tup _ => true
  | _ => false
def pZip : List D → Option (List D)
  | [x, y] => (itemsOf x).bind fun l => (itemsOf y).bind fun m => if isTupD x = isTupD y then some (zipD l m) else none
  | _ => none
@[simp] def itN (p : List D → Option (List D)) (f : M (List D)) : M (List D) := fun r => (f r).bind fun ds r1 => match p ds with
  | some l => .ok l r1
  | none => .no
theorem Rep.itemsF {F : Hp} {x : D} {v : V} {l : List D} (h : Rep G F x v) (e : itemsOf x = some l) : ∃ a xs, v = .ref a ∧ (SqL G.K F a xs ∨ SqT G.K F a xs) ∧ RepL G F l xs := by
  cases h with
  | tup h r => cases e; exact ⟨_, _, rfl, .inr h, r⟩
  | lst h r => cases e; exact ⟨_, _, rfl, .inl (.inl (.inl h)), r⟩
  | kl h r => cases e; exact ⟨_, _, rfl, .inl h, r⟩
  | _ => cases e
theorem walk_rep {F : Hp} {l : List D} {xs : List V} {J : It} {P : Hp → Prop} (rl : RepL G F l xs) (w : Walk J xs.length P (YAt xs)) (hp : ∀ H, Sub F H → P H) : Walk J l.length (fun H => Sub F H) (YD G F l) := by
  rw [rl.length]
  refine w.mono hp fun i H x H' hi hs y => ?_
  obtain ⟨d, e, rd⟩ := rl.get' y.2
  exact ⟨d, e, .inl ⟨y.1, rd⟩⟩
theorem i_seq {tg e : Expr} {f : M D} (h : PE X e (tE G W OX O O1 f)) (hK : X.K = G.K := by rfl) : PI X tg e (iIt G W OX O O1 (itL f)) := by
  refine ⟨fun pins s σ H R I ⟨F, r, S, p⟩ => ?_⟩
  refine thn (h.run pins s σ H (fun v H1 => ∃ x F1 r1 l, Nx G OX O O1 σ F H σ F1 H1 r1 ∧ Rep G F1 x v ∧ itemsOf x = some l ∧ Pst G W OX O1 O1 σ F1 H1 (RI G) R (.ok l r1)) I (tX_bind S p fun x v F1 H1 r1 n1 rx p => ?_)) fun u s1 ⟨v, H1, I1, ru, x, F1, r1, l, n1, rx, ex, p⟩ => ?_
  · revert p
    split
    · rename_i l e
      exact fun p => ⟨x, F1, r1, l, n1, rx, e, p⟩
    · exact fun p => p.elim
  · obtain ⟨a, xs, rfl, hq, rl⟩ := rx.itemsF ex
    cases ru
    have young : ∀ b, b ∈ [s1.heap.objs.size] → FpOk X pins H1 b := fun b hb => by
      rw [List.mem_singleton.mp hb]
      exact I1.fpOk (Nat.le_refl _) (I1.hok.fresh (Nat.le_refl _))
    have push : ∀ o : Obj, Inv X pins σ H1 { s1 with heap := s1.heap.push o } := fun o => I1.kept (t' := s1.toks) fun c u ec => Heap.get?_push_of_some _ ec
    have done : ∀ {J : It}, Walk J l.length (fun H => Sub F1 H) (YD G F1 l) → R J H1 := fun w => p _ F1 H1 (Nx.rfl' n1.sta) w
    rcases hq with hq | hq
    · obtain ⟨its, rv, pl, hz⟩ := I1.list (by rw [hK]; exact n1.sta.sub.sqL hq)
      exact wpAny_pyIter_list pl.isList ⟨_, [s1.heap.objs.size], _, Itl X.K a, H1, rfl, push _, turn_list a _, ⟨_, Heap.get?_push_size _ rfl, rfl, rfl⟩, young, done (walk_rep rl walk_list fun H' sb => by rw [hK]; exact sb.sqL hq)⟩
    · obtain ⟨its, rv, pl, hz⟩ := I1.tuple (by rw [hK]; exact n1.sta.sub.sqT hq)
      exact wpAny_pyIter_tuple (show s1.heap.IsTuple a its.toArray from pl) ⟨_, [s1.heap.objs.size], _, Itt X.K a, H1, rfl, push _, turn_tuple a _, ⟨_, Heap.get?_push_size _ rfl, rfl, rfl⟩, young, done (walk_rep rl walk_tup fun H' sb => by rw [hK]; exact sb.sqT hq)⟩
theorem itN_of {p : List D → Option (List D)} {ds : List D} {r : Ev} {σ : L2.St} {F H : Hp} {R : It → Hp → Prop} (q : Pst G W OX O O1 σ F H (RI G) R (match p ds with
  | some l => .ok l r
  | none => .no)) : ∃ l, p ds = some l ∧ Pst G W OX O O1 σ F H (RI G) R (.ok l r) := by
  revert q
  cases e : p ds with
  | none => exact fun q => q.elim
  | some l => exact fun q => ⟨l, rfl, q⟩
theorem walk_rng {F : Hp} {a b : Int} : Walk (Itr a (b - a).toNat) (rng a b).length (fun H => Sub F H) (YD G F (rng a b)) := by
  have e0 : (rng a b).length = (b - a).toNat := by unfold rng; simp
  rw [e0]
  refine walk_range.mono (fun _ _ => trivial) fun i H x H' hi _ y => ⟨.int (a + (i : Nat)), ?_, .inl ⟨y.1, ?_⟩⟩
  · unfold rng
    rw [List.getElem?_map, List.getElem?_range hi]
    rfl
  · rw [y.2]
    exact .int
theorem i_rng1 {tg a : Expr} {p pos : Pos} {f : M (List D)} (ha : PA X [a] (tA G W OX O O1 f)) (hm : X.mg "range" = none := by assumption) (hg : Gl X "range" := by rfl) (hs : starEach [a] X.env = [(false, eval a X.env)] := by rfl) : PI X tg (.Call (.Name "range" p) [a] [] pos) (iIt G W OX O O1 (itN pRng f)) :=
  (pi_range1 hg hm ha hs).mo fun σ H R ⟨F, r, S, q⟩ => tX_bind S q fun ds vs F1 H1 r1 n1 rs q => by
    obtain ⟨l, e, q⟩ := itN_of q
    unfold pRng at e
    split at e
    · split at e
      · rename_i b hb
        cases e
        cases rs with
        | cons r1 rr =>
          cases rr
          cases r1
          refine ⟨_, rfl, hb.1, hb.2, q _ F1 H1 (Nx.rfl' n1.sta) ?_⟩
          have w := walk_rng (G := G) (F := F1) (a := 0) (b := b)
          rw [Int.sub_zero] at w
          exact w
      · cases e
    · cases e
theorem i_rng2 {tg a b : Expr} {p pos : Pos} {f : M (List D)} (ha : PA X [a, b] (tA G W OX O O1 f)) (hm : X.mg "range" = none := by assumption) (hg : Gl X "range" := by rfl) (hs : starEach [a, b] X.env = [(false, eval a X.env), (false, eval b X.env)] := by rfl) (hs2 : starEach [b] X.env = [(false, eval b X.env)] := by rfl) :
    PI X tg (.Call (.Name "range" p) [a, b] [] pos) (iIt G W OX O O1 (itN pRng2 f)) :=
  (pi_range2 hg hm ha hs hs2).mo fun σ H R ⟨F, r, S, q⟩ => tX_bind S q fun ds vs F1 H1 r1 n1 rs q => by
    obtain ⟨l, e, q⟩ := itN_of q
    unfold pRng2 at e
    split at e
    · split at e
      · rename_i a b hb
        cases e
        cases rs with
        | cons r1 rr =>
          cases rr with
          | cons r2 rr =>
            cases rr
            cases r1
            cases r2
            exact ⟨_, _, rfl, hb, q _ F1 H1 (Nx.rfl' n1.sta) walk_rng⟩
      · cases e
    · cases e
theorem walk_enu {F : Hp} {l : List D} {a : Addr} {xs : List V} {K : PySem.W.Frag} (rl : RepL G F l xs) (hp : ∀ H, Sub F H → SqL K H a xs) : Walk (Ite K a) (enuD l).length (fun H => Sub F H) (YD G F (enuD l)) := by
  have e0 : (enuD l).length = xs.length := by unfold enuD; rw [← rl.length]; simp
  rw [e0]
  refine walk_enum.mono hp fun i H x H' hi _ y => ?_
  obtain ⟨T, x1, y1, h1, h2, h3, h4, h5⟩ := y
  cases h4
  obtain ⟨d, e, rd⟩ := rl.get' h5
  refine ⟨.tup [.int (i : Nat), d], ?_, .inr ⟨T, _, [.int (i : Nat), d], rfl, h1, h2, h3, .cons .int (.cons rd .nil)⟩⟩
  unfold enuD
  rw [List.getElem?_map, List.getElem?_zipIdx, e]
  simp
theorem i_enu {e : Expr} {p pos tpos : Pos} {elts : List Expr} {kk : Nat} {f : M (List D)} (ha : PA X [e] (tA G W OX O O1 f)) (hm : X.mg "enumerate" = none := by assumption) (hg : Gl X "enumerate" := by rfl) (hs : starEach [e] X.env = [(false, eval e X.env)] := by rfl) (hK : X.K = G.K := by rfl) :
    PI X (.Tuple elts kk tpos) (.Call (.Name "enumerate" p) [e] [] pos) (iIt G W OX O O1 (itN pEnu f)) :=
  (pi_enum hg hm ha hs).mo fun σ H R ⟨F, r, S, q⟩ => tX_bind S q fun ds vs F1 H1 r1 n1 rs q => by
    obtain ⟨l, e, q⟩ := itN_of q
    rw [hK]
    have key : ∀ (m : List D) (x : D) (v : V), Rep G F1 x v → itemsOf x = some m → (∀ q, x ≠ .tup q) → ∃ a xs, v = .ref a ∧ RepL G F1 m xs ∧ ∀ H, Sub F1 H → SqL G.K H a xs := fun m x v rx e n => by
      cases rx with
      | tup h r => exact absurd rfl (n _)
      | lst h r => cases e; exact ⟨_, _, rfl, r, fun H sb => sb.sqL (.inl (.inl h))⟩
      | kl h r => cases e; exact ⟨_, _, rfl, r, fun H sb => sb.sqL h⟩
      | _ => cases e
    unfold pEnu at e
    split at e
    · cases e
      cases rs with
      | cons r1 rr =>
        cases rr
        obtain ⟨a, xs, rfl, rl, hh⟩ := key _ _ _ r1 rfl (fun _ z => nomatch z)
        exact ⟨a, xs, rfl, hh H1 n1.sta.sub, q _ F1 H1 (Nx.rfl' n1.sta) (walk_enu rl hh)⟩
    · cases e
      cases rs with
      | cons r1 rr =>
        cases rr
        obtain ⟨a, xs, rfl, rl, hh⟩ := key _ _ _ r1 rfl (fun _ z => nomatch z)
        exact ⟨a, xs, rfl, hh H1 n1.sta.sub, q _ F1 H1 (Nx.rfl' n1.sta) (walk_enu rl hh)⟩
    · cases e
theorem zip_walk {F : Hp} {l m : List D} {xs ys : List V} {J : It} {P : Hp → Prop} (rl : RepL G F l xs) (rm : RepL G F m ys) (w : Walk J (min xs.length ys.length) P (YPair (fun i => xs[i]?) (fun i => ys[i]?))) (hp : ∀ H, Sub F H → P H) : Walk J (zipD l m).length (fun H => Sub F H) (YD G F (zipD l m)) := by
  have e0 : (zipD l m).length = min xs.length ys.length := by unfold zipD; rw [← rl.length, ← rm.length]; simp
  rw [e0]
  refine w.mono hp fun i H x H' hi _ y => ?_
  obtain ⟨T, x1, y1, h1, h2, h3, h4, h5⟩ := y
  obtain ⟨d, e, rd⟩ := rl.get' h4
  obtain ⟨d', e', rd'⟩ := rm.get' h5
  refine ⟨.tup [d, d'], ?_, .inr ⟨T, _, [d, d'], rfl, h1, h2, h3, .cons rd (.cons rd' .nil)⟩⟩
  unfold zipD
  rw [List.getElem?_map, show (l.zip m)[i]? = some (d, d') from by rw [List.getElem?_zip_eq_some]; exact ⟨e, e'⟩]
  rfl
theorem walk_zipT {K : PySem.W.Frag} {a b : Addr} {xs ys : List V} : Walk (RZ.ItzT K a b) (min xs.length ys.length) (fun H => SqT K H a xs ∧ SqT K H b ys) (YPair (fun i => xs[i]?) (fun i => ys[i]?)) := by
  refine ⟨fun i H hi q => ?_, fun H q => ⟨xs, ys, q.1, q.2, by omega⟩, fun i H v H' hi q y => ?_⟩
  · have h1 : i < xs.length := Nat.lt_of_lt_of_le hi (Nat.min_le_left _ _)
    have h2 : i < ys.length := Nat.lt_of_lt_of_le hi (Nat.min_le_right _ _)
    exact ⟨xs, ys, _, _, q.1, q.2, List.getElem?_eq_getElem h1, List.getElem?_eq_getElem h2⟩
  · obtain ⟨T, x, z, e1, e2, e3, e4, e5⟩ := y
    exact ⟨T, x, z, e1, e2, e3, e4 xs q.1, e5 ys q.2⟩
theorem i_zip {e e2 : Expr} {p pos tpos : Pos} {elts : List Expr} {kk : Nat} {f : M (List D)} (ha : PA X [e, e2] (tA G W OX O O1 f)) (hm : X.mg "zip" = none := by assumption) (hg : Gl X "zip" := by rfl) (hs : starEach [e, e2] X.env = (false, eval e X.env) :: starEach [e2] X.env := by rfl) (hpl : (backTo pos (starEach [e2] X.env)).any (·.1) = false := by rfl) (hK : X.K = G.K := by rfl) :
    PI X (.Tuple elts kk tpos) (.Call (.Name "zip" p) [e, e2] [] pos) (iIt G W OX O O1 (itN pZip f)) :=
  (RZ.pi_zipA hg hm ha hs hpl).mo fun σ H R ⟨F, r, S, q⟩ => tX_bind S q fun ds vs F1 H1 r1 n1 rs q => by
    obtain ⟨l, e, q⟩ := itN_of q
    rw [hK]
    have go : ∀ {J : It}, Walk J l.length (fun H => Sub F1 H) (YD G F1 l) → R J H1 := fun w => q _ F1 H1 (Nx.rfl' n1.sta) w
    unfold pZip at e
    split at e
    · rename_i x y
      obtain ⟨l1, e1, e⟩ := Option.bind_eq_some_iff.mp e
      obtain ⟨l2, e2, e⟩ := Option.bind_eq_some_iff.mp e
      split at e
      · rename_i ht
        cases e
        cases rs with
        | cons rx rr =>
          cases rr with
          | cons ry rr =>
            cases rr
            have sb := n1.sta.sub
            by_cases hx : isTupD x = true
            · cases x <;> simp [isTupD] at hx
              rw [show isTupD (.tup _) = true from rfl] at ht
              cases y <;> simp [isTupD] at ht
              cases e1
              cases e2
              cases rx with
              | tup hx rx =>
                cases ry with
                | tup hy ry =>
                  exact ⟨_, _, _, _, rfl, .inr ⟨sb.sqT hx, sb.sqT hy, go (zip_walk rx ry walk_zipT fun H' s => ⟨s.sqT hx, s.sqT hy⟩)⟩⟩
            · have hy : isTupD y = false := by
                rw [← ht]
                simpa using hx
              have key : ∀ (m : List D) (x : D) (v : V), Rep G F1 x v → itemsOf x = some m → isTupD x = false → ∃ a xs, v = .ref a ∧ RepL G F1 m xs ∧ ∀ H, Sub F1 H → SqL G.K H a xs := fun m x v rx e n => by
                cases rx with
                | tup h r => cases n
                | lst h r => cases e; exact ⟨_, _, rfl, r, fun H sb => sb.sqL (.inl (.inl h))⟩
                | kl h r => cases e; exact ⟨_, _, rfl, r, fun H sb => sb.sqL h⟩
                | _ => cases e
              obtain ⟨a, xs, rfl, rl, h1⟩ := key _ _ _ rx e1 (by simpa using hx)
              obtain ⟨b, ys, rfl, rm, h2⟩ := key _ _ _ ry e2 hy
              exact ⟨a, b, xs, ys, rfl, .inl ⟨h1 _ sb, h2 _ sb, go (zip_walk rl rm (walk_zip rfl) fun H' s => ⟨h1 _ s, h2 _ s⟩)⟩⟩
      · cases e
    · cases e

/-! ### for -/
def forGo (g : Tg) (b : M Fl) : List D → Ev → Out Fl
  | [], r => .ok .nx r
  | d :: l, r => match g d r with
    | none => .no
    | some r1 => match b r1 with
      | .ok .nx r2 => forGo g b l r2
      | .ok .ct r2 => forGo g b l r2
      | .ok .bk r2 => .ok .nx r2
      | .ok (.rt x) r2 => .ok (.rt x) r2
      | .ex e r2 => .ex e r2
      | .no => .no
@[simp] def sFor (it : M (List D)) (g : Tg) (b : M Fl) : M Fl := fun r => (it r).bind fun l r1 => forGo g b l r1
theorem s_for {tg iter : Expr} {body : List Stmt} {pos : Pos} {it : M (List D)} {g : Tg} {b : M Fl} {OL0 OL' : List Nat} (vs : List Nat) (hi : PI X tg iter (iIt G W OX O O1 it)) (hg : PG X tg (tG G OX vs OL OL' g)) (hb : PSs X body (tS G W OX OL OL' O2 b))
    (hp : PassesOwn (model X.prog X.w) X.A X.env X.xe) (hx : ∀ i ∈ OX, i ∈ OL := by decide) (hO1 : ∀ i ∈ OL, i ∈ O1 := by decide) (hO2 : ∀ i ∈ OL, i ∈ O2 := by decide) (hc : X.calm = true := by rfl) (hs : ∀ x, foldedSetIterable iter X.env x = pure x := by intro _; rfl) :
    PS X (.For tg iter body [] pos) (tS G W OX OL0 O OL (sFor it g b)) :=
  (ps_for hp hc hi hg hb hs).imp fun Dn σ H ⟨F, r, S, p⟩ => tS_bind S p fun l J F1 H1 r1 n1 rl p => by
    obtain ⟨F2, S2, s2⟩ := Sta.freezeTo OL _ rfl hO1 n1.sta
    have n2 : Nx G OX O1 OL σ F1 H1 σ F2 H1 r1 := ⟨S2, s2, fun _ _ => rfl, fun _ m => .inl (m.sub hO1)⟩
    refine for_it rl (fun i σ' H' => ∃ F' r', Nx G OX O1 OL σ F1 H1 σ' F' H' r' ∧ PstS G W OX OL0 OL OL σ' F' H' Dn (forGo g b (l.drop i) r')) ⟨F2, r1, n2, PstS.after n2 p⟩ (fun i σ' H' _ ⟨F', r', n, _⟩ => n.stp.fz.trans n.sta.sub) ?_ ?_
    · intro i x σ' H' H'' hi ⟨F', r', n, p⟩ y
      obtain ⟨d, ed, y⟩ := y
      have el : l.drop i = d :: l.drop (i + 1) := by
        have hl : i < l.length := hi
        rw [List.drop_eq_getElem_cons hl]
        congr 1
        have := List.getElem?_eq_getElem hl
        rw [this] at ed
        exact Option.some.inj ed
      rw [el, forGo] at p
      have run : ∀ (F'' : Hp), Nx G OX OL OL σ' F' H' σ' F'' H'' r' → Rep G F'' d x → tG G OX vs OL OL' g x σ' H'' fun σ2 H2 => tS G W OX OL OL' O2 b { Dn with nx := fun σ' H' => ∃ F' r', Nx G OX O1 OL σ F1 H1 σ' F' H' r' ∧ PstS G W OX OL0 OL OL σ' F' H' Dn (forGo g b (l.drop (i + 1)) r'), ct := fun σ' H' => ∃ F' r', Nx G OX O1 OL σ F1 H1 σ' F' H' r' ∧ PstS G W OX OL0 OL OL σ' F' H' Dn (forGo g b (l.drop (i + 1)) r'), bk := Dn.nx } σ2 H2 := fun F'' m rd => by
        revert p
        cases e : g d r' with
        | none => exact fun p => p.elim
        | some r2 =>
          intro p
          have p : PstS G W OX OL0 OL OL σ' F' H' Dn (match b r2 with
            | .ok .nx r2 => forGo g b (l.drop (i + 1)) r2
            | .ok .ct r2 => forGo g b (l.drop (i + 1)) r2
            | .ok .bk r2 => .ok .nx r2
            | .ok (.rt x) r2 => .ok (.rt x) r2
            | .ex e r2 => .ex e r2
            | .no => .no) := p
          refine ⟨F'', r', d, r2, m.sta, rd, e, fun σ2 n3 _ => ⟨F'', r2, n3.sta, ?_⟩⟩
          have m3 := m.trans n3
          revert p
          cases b r2 with
          | no => exact fun p => p.elim
          | ex e r3 => exact fun p c dx σ4 F4 H4 n4 xr => p c dx σ4 F4 H4 (m3.trans n4) xr
          | ok c r3 =>
            cases c with
            | nx =>
              intro p σ4 F4 H4 n4
              obtain ⟨F5, n5, _⟩ := (m3.trans n4).freeze hO2
              exact ⟨F5, r3, n.trans n5, PstS.after n5 p⟩
            | ct => exact fun p σ4 F4 H4 n4 => ⟨F4, r3, n.trans (m3.trans n4), PstS.after (m3.trans n4) p⟩
            | bk => exact fun p σ4 F4 H4 n4 => p σ4 F4 H4 (m3.trans n4)
            | rt d => exact fun p v σ4 F4 H4 n4 rv => p v σ4 F4 H4 (m3.trans n4) rv
      rcases y with ⟨e1, rd⟩ | ⟨T, xs, ds, rfl, rfl, hT, rfl, rl'⟩
      · subst e1
        exact run F' (Nx.rfl' n.sta) (rd.mono n.stp.fz)
      · obtain ⟨S', s'⟩ := new_fz (o := .tup xs) n.sta hT rfl
        exact run _ (Nx.of S' s' fun _ h => h) (.tup (.inl (.inl upd_same)) ((rl'.mono n.stp.fz).mono s'.fz))
    · intro σ' H' ⟨F', r', n, p⟩
      rw [List.drop_length] at p
      exact p σ' F' H' (Nx.rfl' n.sta)

/-! ### while -/
def whGo (t : M Bool) (b : M Fl) : Nat → Ev → Out Fl
  | 0, _ => .no
  | n + 1, r => (t r).bind fun c r1 => if c then (match b r1 with
      | .ok .nx r2 => whGo t b n r2
      | .ok .ct r2 => whGo t b n r2
      | .ok .bk r2 => .ok .nx r2
      | .ok (.rt x) r2 => .ok (.rt x) r2
      | .ex e r2 => .ex e r2
      | .no => .no) else .ok .nx r1
def fuel : Nat := 2 ^ 62
@[simp] def sWh (t : M Bool) (b : M Fl) : M Fl := fun r => whGo t b fuel r
theorem s_while {c : Expr} {body : List Stmt} {pos : Pos} {t : M Bool} {b : M Fl} {OL0 : List Nat} (ht : PT X c (tT G W OX OL OL t)) (hb : PSs X body (tS G W OX OL OL O2 b)) (hp : PassesOwn (model X.prog X.w) X.A X.env X.xe)
    (hO1 : ∀ i ∈ OL, i ∈ O := by decide) (hO2 : ∀ i ∈ OL, i ∈ O2 := by decide) : PS X (.While c body [] pos) (tS G W OX OL0 O OL (sWh t b)) :=
  (ps_while hp ht hb).imp fun Dn σ H ⟨F, r, S, p⟩ => by
    obtain ⟨F2, S2, s2⟩ := Sta.freezeTo OL _ rfl hO1 S
    have n2 : Nx G OX O OL σ F H σ F2 H r := ⟨S2, s2, fun _ _ => rfl, fun _ m => .inl (m.sub hO1)⟩
    refine ⟨fun m σ' H' => ∃ F' r', Sta G OL F' H' σ' r' ∧ PstS G W OX OL0 OL OL σ' F' H' Dn (whGo t b m r'), ⟨fuel, F2, r, S2, PstS.after n2 p⟩, ?_⟩
    intro m σ' H' ⟨F', r', S', p⟩
    cases m with
    | zero => exact p.elim
    | succ m =>
      rw [whGo] at p
      refine tS_bind S' p fun x y F1 H1 r1 n1 rl p => ?_
      subst rl
      cases x with
      | false => exact p σ' F1 H1 (Nx.rfl' n1.sta)
      | true =>
        refine ⟨fun σ' H' => ∃ F' r', Sta G OL F' H' σ' r' ∧ PstS G W OX OL0 OL OL σ' F' H' Dn (whGo t b m r'), fun σ3 H3 h => ⟨m, Nat.lt_succ_self m, h⟩, F1, r1, n1.sta, ?_⟩
        have p : PstS G W OX OL0 OL OL σ' F1 H1 Dn (match b r1 with
          | .ok .nx r2 => whGo t b m r2
          | .ok .ct r2 => whGo t b m r2
          | .ok .bk r2 => .ok .nx r2
          | .ok (.rt x) r2 => .ok (.rt x) r2
          | .ex e r2 => .ex e r2
          | .no => .no) := p
        revert p
        cases b r1 with
        | no => exact fun p => p.elim
        | ex e r3 => exact fun p c dx σ4 F4 H4 n4 xr => p c dx σ4 F4 H4 n4 xr
        | ok c r3 =>
          cases c with
          | nx =>
            intro p σ4 F4 H4 n4
            obtain ⟨F5, n5, _⟩ := n4.freeze hO2
            exact ⟨F5, r3, n5.sta, PstS.after n5 p⟩
          | ct => exact fun p σ4 F4 H4 n4 => ⟨F4, r3, n4.sta, PstS.after n4 p⟩
          | bk => exact fun p σ4 F4 H4 n4 => p σ4 F4 H4 n4
          | rt d => exact fun p v σ4 F4 H4 n4 rv => p v σ4 F4 H4 n4 rv
end
end Z

/-! New objects that this code may change; comprehensions. -/
namespace Z
open PySem PySem.Spec PyProof.Rows L2

def wipeE (vs : List Nat) (r : Ev) : Ev := match vs with
  | [] => r
  | v :: vs => (wipeE vs r).set v none
/-- the slots of vs as they were in r -/
def backE (r : Ev) (vs : List Nat) (q : Ev) : Ev := match vs with
  | [] => q
  | v :: vs => (backE r vs q).set v (r.getD v none)
/-- the turns of a comprehension -/
def lcGo (vs : List Nat) (g : Tg) (t : M Bool) (f : M D) : List D → Ev → Option (List D × Ev)
  | [], r => some ([], r)
  | d :: l, r => match g d (wipeE vs r) with
    | none => none
    | some r1 => match t r1 with
      | .ok true r2 => (match f r2 with
        | .ok y r3 => (lcGo vs g t f l r3).map fun (p : List D × Ev) => (y :: p.1, p.2)
        | _ => none)
      | .ok false r2 => lcGo vs g t f l r2
      | _ => none
def lcOut (vs : List Nat) (r1 : Ev) : Option (List D × Ev) → Out D
  | some (ys, r2) => .ok (.lst ys) (backE r1 vs r2)
  | none => .no
@[simp] def eLc (vs : List Nat) (it : M (List D)) (g : Tg) (t : M Bool) (f : M D) : M D := fun r => (it r).bind fun l r1 => if l.length ≤ big then lcOut vs r1 (lcGo vs g t f l r1) else .no
@[simp] def tY : M Bool := fun r => .ok true r

theorem wipeE_out {r : Ev} {i : Nat} : ∀ {vs : List Nat}, i ∉ vs → (wipeE vs r)[i]? = r[i]?
  | [], _ => rfl
  | v :: vs, h => by
    have h1 : v ≠ i := fun e => h (by rw [e]; exact List.mem_cons_self)
    rw [wipeE, List.getElem?_set_ne h1]
    exact wipeE_out fun m => h (List.mem_cons_of_mem _ m)
theorem wipeE_in {r : Ev} {i : Nat} {d : D} : ∀ {vs : List Nat}, i ∈ vs → (wipeE vs r)[i]? ≠ some (some d)
  | v :: vs, h => by
    rw [wipeE]
    by_cases e : v = i
    · subst e
      by_cases hl : v < (wipeE vs r).length
      · rw [List.getElem?_set_self hl]
        exact fun z => nomatch z
      · rw [List.getElem?_eq_none (by simpa using hl)]
        exact fun z => nomatch z
    · rw [List.getElem?_set_ne e]
      refine wipeE_in ?_
      rcases List.mem_cons.mp h with z | z
      · exact absurd z.symm e
      · exact z
theorem wipeE_len {r : Ev} : ∀ {vs : List Nat}, (wipeE vs r).length = r.length
  | [] => rfl
  | v :: vs => by rw [wipeE, List.length_set, wipeE_len]
theorem backE_out {r q : Ev} {i : Nat} : ∀ {vs : List Nat}, i ∉ vs → (backE r vs q)[i]? = q[i]?
  | [], _ => rfl
  | v :: vs, h => by
    have h1 : v ≠ i := fun e => h (by rw [e]; exact List.mem_cons_self)
    rw [backE, List.getElem?_set_ne h1]
    exact backE_out fun m => h (List.mem_cons_of_mem _ m)
theorem backE_len {r q : Ev} : ∀ {vs : List Nat}, (backE r vs q).length = q.length
  | [] => rfl
  | v :: vs => by rw [backE, List.length_set, backE_len]
theorem backE_in {r q : Ev} {i : Nat} {d : D} : ∀ {vs : List Nat}, i ∈ vs → (backE r vs q)[i]? = some (some d) → r[i]? = some (some d)
  | v :: vs, h, e => by
    rw [backE] at e
    by_cases z : v = i
    · subst z
      by_cases hl : v < (backE r vs q).length
      · rw [List.getElem?_set_self hl] at e
        have e := Option.some.inj e
        rw [List.getD_eq_getElem?_getD] at e
        cases w : r[v]? with
        | none => rw [w] at e; cases e
        | some u => rw [w] at e; exact congrArg some e
      · rw [List.getElem?_eq_none (by simpa using hl)] at e
        cases e
    · rw [List.getElem?_set_ne z] at e
      refine backE_in ?_ e
      rcases List.mem_cons.mp h with w | w
      · exact absurd w.symm z
      · exact w

section
variable {G : Gm} {X : Cx} {W : WX} {OX OL vs O O1 O2 O3 : List Nat}
theorem Sta.wipe {σ : L2.St} {F H : Hp} {r : Ev} (S : Sta G O F H σ r) (hd : ∀ i ∈ vs, i ∉ O) : Sta G O F H (L2.wipe σ vs) (wipeE vs r) := by
  have ho : ∀ i ∈ O, i ∉ vs := fun i hi hv => hd i hv hi
  refine ⟨S.sub, S.wf, by rw [wipeE_len, wipe_length]; exact S.len, fun i d hi e => ?_, fun i hi => ?_, fun i j a hi hj ei ej => ?_⟩
  · by_cases hv : i ∈ vs
    · exact absurd e (wipeE_in hv)
    · rw [wipeE_out hv] at e
      rw [wipe_out hv]
      exact S.rp i d hi e
  · rw [wipeE_out (ho i hi), wipe_out (ho i hi)]
    exact S.ow i hi
  · rw [wipe_out (ho i hi)] at ei
    rw [wipe_out (ho j hj)] at ej
    exact S.dj i j a hi hj ei ej
theorem ownAt_wipe {σ : L2.St} {a : Addr} (hd : ∀ i ∈ vs, i ∉ O) : OwnAt O (L2.wipe σ vs) a ↔ OwnAt O σ a := by
  constructor
  · rintro ⟨i, hi, e⟩
    rw [wipe_out fun hv => hd i hv hi] at e
    exact ⟨i, hi, e⟩
  · rintro ⟨i, hi, e⟩
    exact ⟨i, hi, by rw [wipe_out fun hv => hd i hv hi]; exact e⟩
theorem Sta.back {σ : L2.St} {F H F1 H1 : Hp} {r1 q : Ev} (S1 : Sta G O F1 H1 σ r1) (S : Sta G O F H (L2.wipe σ vs) (wipeE vs q)) (sb : Sub F1 F) (hd : ∀ i ∈ vs, i ∉ O) : Sta G O F H σ (backE r1 vs q) := by
  have ho : ∀ i ∈ O, i ∉ vs := fun i hi hv => hd i hv hi
  refine ⟨S.sub, S.wf, by rw [backE_len, ← wipeE_len (vs := vs), S.len, wipe_length], fun i d hi e => ?_, fun i hi => ?_, S1.dj⟩
  · by_cases hv : i ∈ vs
    · obtain ⟨v, e1, rp⟩ := S1.rp i d hi (backE_in hv e)
      exact ⟨v, e1, rp.mono sb⟩
    · rw [backE_out hv, ← wipeE_out hv] at e
      obtain ⟨v, e1, rp⟩ := S.rp i d hi e
      rw [wipe_out hv] at e1
      exact ⟨v, e1, rp⟩
  · obtain ⟨d, v, e1, e2, o⟩ := S.ow i hi
    rw [wipeE_out (ho i hi)] at e1
    rw [wipe_out (ho i hi)] at e2
    exact ⟨d, v, by rw [backE_out (ho i hi)]; exact e1, e2, o⟩
theorem putD {σ : L2.St} {F H : Hp} {r : Ev} {Dd : Addr} {o o' : HO} (S : Sta G O F H σ r) (hH : H Dd = some o') (hF : F Dd = none) (hO : ¬ OwnAt O σ Dd) (hi : noIns o = true) : Sta G O F (upd H Dd o) σ r ∧ Stp (fun a => a = Dd) F H F (upd H Dd o) := by
  have st : Stp (fun a => a = Dd) F H F (upd H Dd o) := ⟨.rfl', fun a u e n => by rw [upd_ne n]; exact e, fun _ _ _ _ => rfl, fun _ e => upd_none e⟩
  refine ⟨S.stay st (fun a u e => ?_) (S.wf.upd hi) fun a m z => hO (z ▸ m), st⟩
  obtain ⟨o'', e', g⟩ := S.sub a u e
  refine ⟨o'', ?_, g⟩
  rw [upd_ne fun z => ?_]
  · exact e'
  · rw [z, hF] at e
    cases e
theorem takes_blk {s : Shared} {H : Hp} {scope : Scope} {cenv : PySem.Env} {fp : List Addr} : Takes (X.blk s H scope cenv fp) (fun _ _ _ _ => False) := fun _ _ ⟨_, _, _, _, _, _, _, _, _, _, _, _, _, _, _, _, w⟩ => w.elim
theorem pts_no : PTs X [] (tT G W OX O O tY) := ⟨fun pins s σ H Q I ⟨F, r, S, p⟩ => pts_nil.run pins s σ H Q I (p _ F H (Nx.rfl' S) rfl)⟩
theorem pts_1 {c : Expr} {t : M Bool} (h : PT X c (tT G W OX O O1 t)) : PTs X [c] (tT G W OX O O1 t) := pts_one h
/-- a new list or dict is given up at once -/
theorem ffz {f : M D} {σ : L2.St} {H : Hp} {Q : VK} (h : tE G W OX O O1 f σ H Q) : tF G W OX O O1 f σ H Q := by
  obtain ⟨F, r, S, p⟩ := h
  refine ⟨F, r, S, ?_⟩
  revert p
  cases f r with
  | no => exact fun p => p
  | ex e q => exact fun p => p
  | ok d q =>
    intro p v F1 H1 n ⟨ow, nw⟩
    obtain ⟨F2, a, o, rfl, ha, rfl, k1, k2, rp⟩ := ow.freeze n.sta.sub
    obtain ⟨h0, hO⟩ := nw a rfl
    have st : Stp (fun x => x = a) F1 H1 (upd F1 a o) H1 := ⟨k1, fun _ _ e _ => e, fun _ _ _ nn => upd_ne nn, fun _ e => e⟩
    exact p _ _ H1 ⟨n.sta.stay st k2 n.sta.wf fun b m z => hO (z ▸ m), n.stp.trans st fun x z => .inr (z ▸ h0), n.kp, n.pv⟩ rp
theorem _root_.L2.PE.fz {e : Expr} {f : M D} (h : PE X e (tF G W OX O O1 f)) : PE X e (tE G W OX O O1 f) := ⟨fun pins s σ H Q I q => h.run pins s σ H Q I (ffz q)⟩
theorem lc_imp {own : List (Str × Nat)} {it : M (List D)} {g : Tg} {t : M Bool} {f : M D} (hvs : own.map (·.2) = vs) (hd : ∀ i ∈ vs, i ∉ O1) (σ : L2.St) (H : Hp) (Q : VK) (h : tF G W OX O O1 (eLc vs it g t f) σ H Q) :
    tLc (iIt G W OX O O1 it) (tG G [] vs O1 O1 g) (tT G (fun _ _ _ _ => False) [] O1 O1 t) (tE G (fun _ _ _ _ => False) [] O1 O1 f) (own.map (·.2)) σ H Q := by
  obtain ⟨F, r, S, p⟩ := h
  refine tX_bind S p fun l J F1 H1 r1 n1 rl p => ?_
  rw [hvs]
  intro Dd hD
  split at p
  case isFalse => exact p.elim
  rename_i hlen
  have fD : F1 Dd = none := by
    cases q : F1 Dd with
    | none => rfl
    | some u =>
      obtain ⟨o', e, _⟩ := n1.sta.sub Dd u q
      rw [hD] at e
      cases e
  have nO : ¬ OwnAt O1 σ Dd := fun ⟨i, hi, e⟩ => by
    obtain ⟨d, v, _, e2, ow⟩ := n1.sta.ow i hi
    rw [e] at e2
    cases e2
    obtain ⟨a, o, ea, ha⟩ := ow.there
    cases ea
    rw [hD] at ha
    cases ha
  -- the walk: what the turns so far have built
  let Pv : Nat → Hp → Prop := fun i H' => ∃ F' r' ys acc, Sta G O1 F' H' (L2.wipe σ vs) (wipeE vs r') ∧ Stp (fun a => OwnAt O1 σ a ∨ a = Dd) F1 (upd H1 Dd (.lst [])) F' H' ∧ H' Dd = some (.lst acc) ∧ F' Dd = none ∧ RepL G F' ys acc ∧ acc.length ≤ i ∧
    Pst G W OX O1 O1 σ F1 H1 (RF G O1 σ H) Q (lcOut vs r1 ((lcGo vs g t f (l.drop i) r').map fun (p : List D × Ev) => (ys ++ p.1, p.2)))
  have start := new_ow (o := .lst []) n1.sta hD rfl
  refine lc_it rl Pv ⟨F1, r1, [], [], start.1.wipe hd, .rfl', upd_same, fD, .nil, Nat.zero_le _, ?_⟩ (fun i H' _ ⟨F', r', ys, acc, S', st, _⟩ => st.fz.trans S'.sub) ?_ ?_
  · rw [List.drop_zero]
    have : (lcGo vs g t f l r1).map (fun p => (([] : List D) ++ p.1, p.2)) = lcGo vs g t f l r1 := by
      rw [show (fun p : List D × Ev => (([] : List D) ++ p.1, p.2)) = id from by funext p; rfl]
      simp
    rw [this]
    exact p
  · rintro i x H' H'' hi ⟨F', r', ys, acc, S', st, hDd, fDd, ry, ha, p⟩ ⟨d, ed, y⟩
    have el : l.drop i = d :: l.drop (i + 1) := by
      have hl : i < l.length := hi
      rw [List.drop_eq_getElem_cons hl]
      congr 1
      have := List.getElem?_eq_getElem hl
      rw [this] at ed
      exact Option.some.inj ed
    rw [el, lcGo] at p
    -- the value given: behind it nothing but a new tuple
    have run : ∀ (F2 : Hp), Sta G O1 F2 H'' (L2.wipe σ vs) (wipeE vs r') → Stp (fun a => OwnAt O1 σ a ∨ a = Dd) F1 (upd H1 Dd (.lst [])) F2 H'' → H'' Dd = some (.lst acc) → F2 Dd = none → RepL G F2 ys acc → Rep G F2 d x →
        tG G [] vs O1 O1 g x (L2.wipe σ vs) H'' fun σ2 H2 => L2.wipe σ2 vs = L2.wipe σ vs ∧ tT G (fun _ _ _ _ => False) [] O1 O1 t σ2 H2 fun b H3 => if b = true then tE G (fun _ _ _ _ => False) [] O1 O1 f σ2 H3 fun y H4 => ∃ acc, H4 Dd = some (.lst acc) ∧ acc.length < sizeLine ∧ Pv (i + 1) (upd H4 Dd (.lst (acc ++ [y]))) else Pv (i + 1) H3 := fun F2 S2 st2 hD2 fD2 ry2 rx => by
      cases e : g d (wipeE vs r') with
      | none =>
        rw [e] at p
        exact p.elim
      | some r2 =>
        rw [e] at p
        refine ⟨F2, _, d, r2, S2, rx, e, fun σ2 n3 w3 => ?_⟩
        have w3 : L2.wipe σ2 vs = L2.wipe σ vs := by
          have idem : ∀ (l : List Nat) (σ : L2.St), (∀ i ∈ l, i ∈ vs) → L2.wipe (L2.wipe σ l) vs = L2.wipe σ vs := by
            intro l
            induction l with
            | nil => exact fun _ _ => rfl
            | cons a l ih =>
              intro σ h
              rw [L2.wipe, wipe_set (h a List.mem_cons_self)]
              exact ih σ fun i hi => h i (List.mem_cons_of_mem _ hi)
          rw [w3]
          exact idem vs σ fun _ h => h
        refine ⟨w3, F2, r2, n3.sta, ?_⟩
        have mo : ∀ {a}, OwnAt O1 σ2 a → OwnAt O1 σ a := fun {a} m => (ownAt_wipe hd).mp (by rw [← w3]; exact (ownAt_wipe hd).mpr m)
        have nO2 : ¬ OwnAt O1 σ2 Dd := fun m => nO (mo m)
        have p : Pst G W OX O1 O1 σ F1 H1 (RF G O1 σ H) Q (lcOut vs r1 ((match t r2 with
          | .ok true r2 => (match f r2 with
            | .ok y r3 => (lcGo vs g t f (l.drop (i + 1)) r3).map fun (p : List D × Ev) => (y :: p.1, p.2)
            | _ => none)
          | .ok false r2 => lcGo vs g t f (l.drop (i + 1)) r2
          | _ => none).map fun (p : List D × Ev) => (ys ++ p.1, p.2))) := p
        -- one step more: own objects and nothing else changed
        have ext : ∀ {F3 H3 : Hp} {q : Ev}, Nx G [] O1 O1 σ2 F2 H'' σ2 F3 H3 q → Stp (fun a => OwnAt O1 σ a ∨ a = Dd) F1 (upd H1 Dd (.lst [])) F3 H3 ∧ H3 Dd = some (.lst acc) ∧ F3 Dd = none ∧ RepL G F3 ys acc := fun {F3 H3 q} n =>
          ⟨st2.trans n.stp fun x m => .inl (.inl (mo m)), n.stp.kp _ _ hD2 nO2, (n.stp.nf _ _ hD2 nO2).trans fD2, ry2.mono n.stp.fz⟩
        have again : ∀ {F3 H3 : Hp} {q : Ev}, Nx G [] O1 O1 σ2 F2 H'' σ2 F3 H3 q → Sta G O1 F3 H3 (L2.wipe σ vs) (wipeE vs q) := fun {F3 H3 q} n => by
          rw [← w3]
          exact n.sta.wipe hd
        revert p
        cases t r2 with
        | no => exact fun p => p.elim
        | ex e q => exact fun p => p.elim
        | ok c r3 =>
          cases c with
          | false =>
            intro p b F3 H3 n eb
            cases eb
            rw [if_neg (by decide)]
            obtain ⟨a1, a2, a3, a4⟩ := ext n
            exact ⟨F3, r3, ys, acc, again n, a1, a2, a3, a4, Nat.le_succ_of_le ha, p⟩
          | true =>
            intro p b F3 H3 n eb
            cases eb
            rw [if_pos rfl]
            have p : Pst G W OX O1 O1 σ F1 H1 (RF G O1 σ H) Q (lcOut vs r1 ((match f r3 with
              | .ok y r3 => (lcGo vs g t f (l.drop (i + 1)) r3).map fun (p : List D × Ev) => (y :: p.1, p.2)
              | _ => none).map fun (p : List D × Ev) => (ys ++ p.1, p.2))) := p
            refine ⟨F3, r3, n.sta, ?_⟩
            revert p
            cases f r3 with
            | no => exact fun p => p.elim
            | ex e q => exact fun p => p.elim
            | ok z r4 =>
              intro p w F4 H4 n4 rw4
              have nn := n.trans n4
              obtain ⟨a1, a2, a3, a4⟩ := ext nn
              refine ⟨acc, a2, ?_, ?_⟩
              · have h1 : acc.length < l.length := Nat.lt_of_le_of_lt ha hi
                exact Nat.lt_of_lt_of_le h1 (big_line hlen)
              · obtain ⟨S5, st5⟩ := putD (o := .lst (acc ++ [w])) (again nn) a2 a3 (fun m => nO ((ownAt_wipe hd).mp m)) rfl
                refine ⟨F4, r4, ys ++ [z], acc ++ [w], S5, a1.trans st5 fun x m => .inl (.inr m), upd_same, a3, a4.app (.cons rw4 .nil), by simp; exact ha, ?_⟩
                rw [Option.map_map] at p
                have : ((fun p : List D × Ev => (ys ++ p.1, p.2)) ∘ fun p : List D × Ev => (z :: p.1, p.2)) = fun p => ((ys ++ [z]) ++ p.1, p.2) := by
                  funext p
                  simp
                rw [this] at p
                exact p
    rcases y with ⟨e1, rd⟩ | ⟨T, xs, ds, rfl, rfl, hT, rfl, rl'⟩
    · subst e1
      exact run F' S' st hDd fDd ry (rd.mono st.fz)
    · obtain ⟨S2, s2⟩ := new_fz (o := .tup xs) S' hT rfl
      have ne : Dd ≠ T := fun z => by rw [z, hT] at hDd; cases hDd
      exact run _ S2 (st.trans s2 fun x m => .inl (.inl ((ownAt_wipe hd).mp m))) (by rw [upd_ne ne]; exact hDd) (by rw [upd_ne ne]; exact fDd) (ry.mono s2.fz) (.tup (.inl (.inl upd_same)) ((rl'.mono st.fz).mono s2.fz))
  · rintro H' ⟨F', r', ys, acc, S', st, hDd, fDd, ry, ha, p⟩
    rw [List.drop_length] at p
    have p : Pst G W OX O1 O1 σ F1 H1 (RF G O1 σ H) Q (.ok (.lst (ys ++ [])) (backE r1 vs r')) := p
    rw [List.append_nil] at p
    refine p _ F' H' ⟨n1.sta.back S' st.fz hd, (start.2.1.trans st fun x m => ?_), fun _ _ => rfl, fun a m => .inl m⟩ ⟨.lst hDd fDd ry, fun a ea => ?_⟩
    · rcases m with m | m
      · exact .inl m
      · exact .inr (by rw [m]; exact hD)
    · cases ea
      exact ⟨n1.stp.tr _ hD, nO⟩
theorem e_lcF {elt tg iter : Expr} {ifs : List Expr} {scope : Scope} {pos : Pos} {it : M (List D)} {g : Tg} {t : M Bool} {f : M D} (own : List (Str × Nat)) (hvs : own.map (·.2) = vs) (hi : PI X tg iter (iIt G W OX O O1 it)) (ok : BlkOk X.N X.env.scope scope own)
    (hg : ∀ (s : Shared) (H : Hp) (C : Addr) (cl : List (Str × Addr)) (fp : List Addr), PG (X.blk s H scope (compEnvC scope cl C X.env) fp) tg (tG G [] vs O1 O1 g)) (ht : ∀ (s : Shared) (H : Hp) (C : Addr) (cl : List (Str × Addr)) (fp : List Addr), PTs (X.blk s H scope (compEnvC scope cl C X.env) fp) ifs (tT G (fun _ _ _ _ => False) [] O1 O1 t))
    (he : ∀ (s : Shared) (H : Hp) (C : Addr) (cl : List (Str × Addr)) (fp : List Addr), PE (X.blk s H scope (compEnvC scope cl C X.env) fp) elt (tE G (fun _ _ _ _ => False) [] O1 O1 f)) (hN : X.N.Nodup := by first | assumption | decide +kernel) (hd : ∀ i ∈ vs, i ∉ O1 := by decide) (hc : X.calm = true := by rfl) (hs : ∀ x, foldedSetIterable iter X.env x = pure x := by intro _; rfl) :
    PE X (.ListComp elt [⟨tg, iter, ifs, 0⟩] scope pos) (tF G W OX O O1 (eLc vs it g t f)) :=
  (pe_lc hc hN hi ok hg ht he hs).imp (lc_imp hvs hd)
end
end Z

/-! Built-in calls; isinstance; assignment, attribute stores, own lists. -/
namespace Z
open PySem PySem.Spec PyProof.Rows L2

def toInts : List D → Option (List Int)
  | [] => some []
  | .int i :: l => (toInts l).map (i :: ·)
  | _ => none
def toBls : List D → Option (List Bool)
  | [] => some []
  | .bl i :: l => (toBls l).map (i :: ·)
  | _ => none
theorem toInts_eq : ∀ {l : List D} {ns : List Int}, toInts l = some ns → l = ns.map D.int
  | [], ns, e => by cases e; rfl
  | d :: l, ns, e => by
    cases d with
    | int i =>
      obtain ⟨m, e1, e2⟩ := Option.map_eq_some_iff.mp (show (toInts l).map (i :: ·) = some ns from e)
      subst e2
      rw [toInts_eq e1]
      rfl
    | _ => cases e
theorem toInts_map (ns : List Int) : toInts (ns.map D.int) = some ns := by
  induction ns with
  | nil => rfl
  | cons i l ih => rw [List.map_cons, toInts, ih]; rfl
theorem toBls_eq : ∀ {l : List D} {ns : List Bool}, toBls l = some ns → l = ns.map D.bl
  | [], ns, e => by cases e; rfl
  | d :: l, ns, e => by
    cases d with
    | bl i =>
      obtain ⟨m, e1, e2⟩ := Option.map_eq_some_iff.mp (show (toBls l).map (i :: ·) = some ns from e)
      subst e2
      rw [toBls_eq e1]
      rfl
    | _ => cases e
theorem toBls_map (ns : List Bool) : toBls (ns.map D.bl) = some ns := by
  induction ns with
  | nil => rfl
  | cons i l ih => rw [List.map_cons, toBls, ih]; rfl
def lisOf : D → Option (List D)
  | .lst l => some l
  | .kl l => some l
  | _ => none
def pLen : List D → Option D
  | [.str z] => if z.length ≤ big then some (.int z.length) else none
  | [x] => (itemsOf x).map fun l => .int (l.length : Nat)
  | _ => none
def pAbs : List D → Option D
  | [.int i] => some (.int (if i < 0 then -i else i))
  | _ => none
def pInt : List D → Option D
  | [.int i] => some (.int i)
  | [.bl k] => some (.int (if k then 1 else 0))
  | _ => none
def pBool : List D → Option D
  | [.int i] => some (.bl (i != 0))
  | [.bl k] => some (.bl k)
  | _ => none
def pSum : List D → Option D
  | [x] => (lisOf x).bind fun l => (toInts l).map fun ns => .int ns.sum
  | _ => none
def pAll : List D → Option D
  | [x] => (lisOf x).bind fun l => (toBls l).map fun ns => .bl (ns.all id)
  | _ => none
def pAny : List D → Option D
  | [x] => (lisOf x).bind fun l => (toBls l).map fun ns => .bl (ns.any id)
  | _ => none
def pTuple : List D → Option D
  | [x] => (itemsOf x).map fun l => .tup l
  | _ => none
def pList : List D → Option D
  | [x] => (itemsOf x).map fun l => .lst l
  | _ => none
def pGcd : List D → Option D
  | [.int a, .int b] => some (.int ((Nat.gcd a.natAbs b.natAbs : Nat) : Int))
  | _ => none
def pMax2 : List D → Option D
  | [.int i, .int j] => some (.int (if j > i then j else i))
  | _ => none
def pMin2 : List D → Option D
  | [.int i, .int j] => some (.int (if j < i then j else i))
  | _ => none

section
variable {G : Gm} {X : Cx} {W : WX} {OX OL vs O O1 O2 O3 : List Nat}
/-- the rule rr of a built-in says what p says of trees -/
def Says (G : Gm) (X : Cx) (W : WX) (OX O : List Nat) (p : List D → Option D) (rr : List V → Hp → VK → Prop) : Prop :=
  ∀ (σ : L2.St) (F H : Hp) (r : Ev) (ds : List D) (vs : List V) (d : D) (Q : VK), Sta G O F H σ r → RepL G F ds vs → p ds = some d → Pst G W OX O O σ F H (RD G) Q (.ok d r) → rr vs H Q
theorem says_of {p : List D → Option D} {rr : List V → Hp → VK → Prop} (h : Says G X W OX O1 p rr) {t : List Expr} {f : M (List D)} {σ : L2.St} {H : Hp} {Q : VK} (q : tE G W OX O O1 (eN p f) σ H Q) : tCB rr (tA G W OX O O1 f) σ H Q := by
  obtain ⟨F, r, S, q⟩ := q
  refine tX_bind S q fun ds vs F1 H1 r1 n1 rs q => ?_
  obtain ⟨d, e, q⟩ := q.lift
  exact h σ F1 H1 r1 ds vs d Q n1.sta rs e q
theorem e_cB {x : Str} {id : String} {e : Expr} {es : List Expr} {pp pos : Pos} {f : M (List D)} {rr : List V → Hp → VK → Prop} (p : List D → Option D) (hc : CallR X (.builtin id) rr) (hp : Says G X W OX O1 p rr) (ha : PA X (e :: es) (tA G W OX O O1 f)) (hm : X.mg x = none := by assumption) (hv : bootBuiltins x = some (.builtin id) := by first | assumption | decide +kernel) (hg : Gl X x := by rfl) (hn : x ≠ "__name__" := by decide) (hdb : (x == ("__debug__" : Str)) = false := by decide)
    (he : starEach (e :: es) X.env = (false, eval e X.env) :: starEach es X.env := by rfl) (hpl : (backTo pos (starEach es X.env)).any (·.1) = false := by rfl) : PE X (.Call (.Name x pp) (e :: es) [] pos) (tE G W OX O O1 (eN p f)) :=
  (pe_callB hc hg hm hv ha hn hdb he hpl).imp fun σ H Q q => says_of (t := es) hp q
theorem e_cT {x : Str} {id : String} {e : Expr} {es : List Expr} {pp pos : Pos} {f : M (List D)} {rr : List V → Hp → VK → Prop} (p : List D → Option D) (hc : CallR X (.type id) rr) (hp : Says G X W OX O1 p rr) (ha : PA X (e :: es) (tA G W OX O O1 f)) (hm : X.mg x = none := by assumption) (hv : bootBuiltins x = some (.type id) := by first | assumption | decide +kernel) (hg : Gl X x := by rfl) (hn : x ≠ "__name__" := by decide) (hdb : (x == ("__debug__" : Str)) = false := by decide)
    (he : starEach (e :: es) X.env = (false, eval e X.env) :: starEach es X.env := by rfl) (hpl : (backTo pos (starEach es X.env)).any (·.1) = false := by rfl) : PE X (.Call (.Name x pp) (e :: es) [] pos) (tE G W OX O O1 (eN p f)) :=
  (pe_callTy hc hg hm hv ha hn hdb he hpl).imp fun σ H Q q => says_of (t := es) hp q
theorem e_cM {x : Str} {id : String} {e : Expr} {es : List Expr} {pp pos : Pos} {f : M (List D)} {rr : List V → Hp → VK → Prop} (p : List D → Option D) (hc : CallR X (.builtin id) rr) (hp : Says G X W OX O1 p rr) (ha : PA X (e :: es) (tA G W OX O O1 f)) (hm : X.mg x = some (.builtin id)) (hg : Gl X x := by rfl) (hdb : (x == ("__debug__" : Str)) = false := by decide)
    (he : starEach (e :: es) X.env = (false, eval e X.env) :: starEach es X.env := by rfl) (hpl : (backTo pos (starEach es X.env)).any (·.1) = false := by rfl) : PE X (.Call (.Name x pp) (e :: es) [] pos) (tE G W OX O O1 (eN p f)) :=
  (pe_callBfun hc hg hm ha hdb he hpl).imp fun σ H Q q => says_of (t := es) hp q
/-- a fresh list of list(..) -/
theorem lis_of {F : Hp} {x : D} {v : V} {l : List D} (h : Rep G F x v) (e : lisOf x = some l) : ∃ a xs, v = .ref a ∧ (∀ H, Sub F H → SqL G.K H a xs) ∧ RepL G F l xs := by
  cases h with
  | lst h r => cases e; exact ⟨_, _, rfl, fun H sb => sb.sqL (.inl (.inl h)), r⟩
  | kl h r => cases e; exact ⟨_, _, rfl, fun H sb => sb.sqL h, r⟩
  | _ => cases e
theorem e_len {x : Expr} {xs : List Expr} {pp pos : Pos} {f : M (List D)} (ha : PA X (x :: xs) (tA G W OX O O1 f)) (hm : X.mg "len" = none := by assumption) (hg : Gl X "len" := by rfl) (hK : X.K = G.K := by rfl)
    (he : starEach (x :: xs) X.env = (false, eval x X.env) :: starEach xs X.env := by rfl) (hpl : (backTo pos (starEach xs X.env)).any (·.1) = false := by rfl) : PE X (.Call (.Name "len" pp) (x :: xs) [] pos) (tE G W OX O O1 (eN pLen f)) :=
  e_cB pLen call_len (fun σ F H r ds vs d Q S rs e q => by
    unfold pLen at e
    split at e
    · split at e
      · rename_i hz
        cases e
        cases rs with
        | cons r1 rr =>
          cases rr
          cases r1
          exact ⟨_, _, rfl, ⟨big_line hz, rfl⟩, q.ok S .int⟩
      · cases e
    · obtain ⟨l, e1, e2⟩ := Option.map_eq_some_iff.mp e
      subst e2
      cases rs with
      | cons r1 rr =>
        cases rr
        obtain ⟨a, xs, rfl, hq, rl⟩ := r1.items S.sub e1
        rw [hK]
        rw [rl.length] at q
        exact ⟨_, xs.length, rfl, hq.elim (fun h => .inl ⟨_, h, rfl⟩) fun h => .inr ⟨_, h, rfl⟩, q.ok S .int⟩
    · cases e) ha hm (hg := hg) (he := he) (hpl := hpl)
theorem e_abs {x : Expr} {xs : List Expr} {pp pos : Pos} {f : M (List D)} (ha : PA X (x :: xs) (tA G W OX O O1 f)) (hm : X.mg "abs" = none := by assumption) (hg : Gl X "abs" := by rfl)
    (he : starEach (x :: xs) X.env = (false, eval x X.env) :: starEach xs X.env := by rfl) (hpl : (backTo pos (starEach xs X.env)).any (·.1) = false := by rfl) : PE X (.Call (.Name "abs" pp) (x :: xs) [] pos) (tE G W OX O O1 (eN pAbs f)) :=
  e_cB pAbs call_abs (fun σ F H r ds vs d Q S rs e q => by
    unfold pAbs at e
    split at e
    · cases e
      cases rs with
      | cons r1 rr => cases rr; cases r1; exact ⟨_, rfl, q.ok S .int⟩
    · cases e) ha hm (hg := hg) (he := he) (hpl := hpl)
theorem e_toInt {x : Expr} {xs : List Expr} {pp pos : Pos} {f : M (List D)} (ha : PA X (x :: xs) (tA G W OX O O1 f)) (hm : X.mg "int" = none := by assumption) (hg : Gl X "int" := by rfl)
    (he : starEach (x :: xs) X.env = (false, eval x X.env) :: starEach xs X.env := by rfl) (hpl : (backTo pos (starEach xs X.env)).any (·.1) = false := by rfl) : PE X (.Call (.Name "int" pp) (x :: xs) [] pos) (tE G W OX O O1 (eN pInt f)) :=
  e_cT pInt call_int1 (fun σ F H r ds vs d Q S rs e q => by
    unfold pInt at e
    split at e
    · cases e
      cases rs with
      | cons r1 rr => cases rr; cases r1; exact .inl ⟨_, rfl, q.ok S .int⟩
    · cases e
      cases rs with
      | cons r1 rr => cases rr; cases r1; exact .inr ⟨_, rfl, q.ok S .int⟩
    · cases e) ha hm (hg := hg) (he := he) (hpl := hpl)
theorem e_toBool {x : Expr} {xs : List Expr} {pp pos : Pos} {f : M (List D)} (ha : PA X (x :: xs) (tA G W OX O O1 f)) (hm : X.mg "bool" = none := by assumption) (hg : Gl X "bool" := by rfl)
    (he : starEach (x :: xs) X.env = (false, eval x X.env) :: starEach xs X.env := by rfl) (hpl : (backTo pos (starEach xs X.env)).any (·.1) = false := by rfl) : PE X (.Call (.Name "bool" pp) (x :: xs) [] pos) (tE G W OX O O1 (eN pBool f)) :=
  e_cT pBool call_bool1 (fun σ F H r ds vs d Q S rs e q => by
    unfold pBool at e
    split at e
    · cases e
      cases rs with
      | cons r1 rr => cases rr; cases r1; exact .inl ⟨_, rfl, q.ok S .bl⟩
    · cases e
      cases rs with
      | cons r1 rr => cases rr; cases r1; exact .inr ⟨_, rfl, q.ok S .bl⟩
    · cases e) ha hm (hg := hg) (he := he) (hpl := hpl)
theorem e_sum {x : Expr} {xs : List Expr} {pp pos : Pos} {f : M (List D)} (ha : PA X (x :: xs) (tA G W OX O O1 f)) (hm : X.mg "sum" = none := by assumption) (hg : Gl X "sum" := by rfl) (hc : X.calm = true := by rfl) (hK : X.K = G.K := by rfl)
    (he : starEach (x :: xs) X.env = (false, eval x X.env) :: starEach xs X.env := by rfl) (hpl : (backTo pos (starEach xs X.env)).any (·.1) = false := by rfl) : PE X (.Call (.Name "sum" pp) (x :: xs) [] pos) (tE G W OX O O1 (eN pSum f)) :=
  e_cB pSum (cr_sum hc) (fun σ F H r ds vs d Q S rs e q => by
    unfold pSum at e
    split at e
    · obtain ⟨l, e1, e2⟩ := Option.bind_eq_some_iff.mp e
      obtain ⟨ns, e3, e4⟩ := Option.map_eq_some_iff.mp e2
      subst e4
      cases rs with
      | cons r1 rr =>
        cases rr
        obtain ⟨a, xs, rfl, hq, rl⟩ := lis_of r1 e1
        rw [toInts_eq e3] at rl
        rw [hK]
        exact ⟨a, ns, rfl, by rw [← rl.ints]; exact hq H S.sub, q.ok S .int⟩
    · cases e) ha hm (hg := hg) (he := he) (hpl := hpl)
theorem e_all {x : Expr} {xs : List Expr} {pp pos : Pos} {f : M (List D)} (ha : PA X (x :: xs) (tA G W OX O O1 f)) (hm : X.mg "all" = none := by assumption) (hg : Gl X "all" := by rfl) (hc : X.calm = true := by rfl) (hK : X.K = G.K := by rfl)
    (he : starEach (x :: xs) X.env = (false, eval x X.env) :: starEach xs X.env := by rfl) (hpl : (backTo pos (starEach xs X.env)).any (·.1) = false := by rfl) : PE X (.Call (.Name "all" pp) (x :: xs) [] pos) (tE G W OX O O1 (eN pAll f)) :=
  e_cB pAll (cr_all hc) (fun σ F H r ds vs d Q S rs e q => by
    unfold pAll at e
    split at e
    · obtain ⟨l, e1, e2⟩ := Option.bind_eq_some_iff.mp e
      obtain ⟨ns, e3, e4⟩ := Option.map_eq_some_iff.mp e2
      subst e4
      cases rs with
      | cons r1 rr =>
        cases rr
        obtain ⟨a, xs, rfl, hq, rl⟩ := lis_of r1 e1
        rw [toBls_eq e3] at rl
        rw [hK]
        exact ⟨a, ns, rfl, by rw [← rl.bls]; exact hq H S.sub, q.ok S .bl⟩
    · cases e) ha hm (hg := hg) (he := he) (hpl := hpl)
theorem e_any {x : Expr} {xs : List Expr} {pp pos : Pos} {f : M (List D)} (ha : PA X (x :: xs) (tA G W OX O O1 f)) (hm : X.mg "any" = none := by assumption) (hg : Gl X "any" := by rfl) (hc : X.calm = true := by rfl) (hK : X.K = G.K := by rfl)
    (he : starEach (x :: xs) X.env = (false, eval x X.env) :: starEach xs X.env := by rfl) (hpl : (backTo pos (starEach xs X.env)).any (·.1) = false := by rfl) : PE X (.Call (.Name "any" pp) (x :: xs) [] pos) (tE G W OX O O1 (eN pAny f)) :=
  e_cB pAny (cr_any hc) (fun σ F H r ds vs d Q S rs e q => by
    unfold pAny at e
    split at e
    · obtain ⟨l, e1, e2⟩ := Option.bind_eq_some_iff.mp e
      obtain ⟨ns, e3, e4⟩ := Option.map_eq_some_iff.mp e2
      subst e4
      cases rs with
      | cons r1 rr =>
        cases rr
        obtain ⟨a, xs, rfl, hq, rl⟩ := lis_of r1 e1
        rw [toBls_eq e3] at rl
        rw [hK]
        exact ⟨a, ns, rfl, by rw [← rl.bls]; exact hq H S.sub, q.ok S .bl⟩
    · cases e) ha hm (hg := hg) (he := he) (hpl := hpl)
theorem e_tuple {x : Expr} {xs : List Expr} {pp pos : Pos} {f : M (List D)} (ha : PA X (x :: xs) (tA G W OX O O1 f)) (hm : X.mg "tuple" = none := by assumption) (hg : Gl X "tuple" := by rfl) (hK : X.K = G.K := by rfl)
    (he : starEach (x :: xs) X.env = (false, eval x X.env) :: starEach xs X.env := by rfl) (hpl : (backTo pos (starEach xs X.env)).any (·.1) = false := by rfl) : PE X (.Call (.Name "tuple" pp) (x :: xs) [] pos) (tE G W OX O O1 (eN pTuple f)) :=
  e_cT pTuple call_tuple_of (fun σ F H r ds vs d Q S rs e q => by
    unfold pTuple at e
    split at e
    · obtain ⟨l, e1, e2⟩ := Option.map_eq_some_iff.mp e
      subst e2
      cases rs with
      | cons r1 rr =>
        cases rr
        rw [hK]
        obtain ⟨a, xs, rfl, hq, rl⟩ := r1.itemsF e1
        rcases hq with hq | hq
        · exact ⟨a, xs, rfl, .inl ⟨S.sub.sqL hq, fun p hp => q.fz S hp rfl fun F' hF sb => .tup (.inl (.inl hF)) (rl.mono sb)⟩⟩
        · exact ⟨a, xs, rfl, .inr ⟨S.sub.sqT hq, q.ok S (.tup hq rl)⟩⟩
    · cases e) ha hm (hg := hg) (he := he) (hpl := hpl)
theorem e_gcd {x : Expr} {xs : List Expr} {pp pos : Pos} {f : M (List D)} {nm : Str} (ha : PA X (x :: xs) (tA G W OX O O1 f)) (hm : X.mg nm = some (.builtin "math.gcd")) (hg : Gl X nm := by rfl) (hdb : (nm == ("__debug__" : Str)) = false := by decide)
    (he : starEach (x :: xs) X.env = (false, eval x X.env) :: starEach xs X.env := by rfl) (hpl : (backTo pos (starEach xs X.env)).any (·.1) = false := by rfl) : PE X (.Call (.Name nm pp) (x :: xs) [] pos) (tE G W OX O O1 (eN pGcd f)) :=
  e_cM pGcd cr_gcd (fun σ F H r ds vs d Q S rs e q => by
    unfold pGcd at e
    split at e
    · cases e
      cases rs with
      | cons r1 rr =>
        cases rr with
        | cons r2 rr => cases rr; cases r1; cases r2; exact ⟨_, _, rfl, q.ok S .int⟩
    · cases e) ha hm hg hdb he hpl
theorem e_max2 {x : Expr} {xs : List Expr} {pp pos : Pos} {f : M (List D)} (ha : PA X (x :: xs) (tA G W OX O O1 f)) (hm : X.mg "max" = none := by assumption) (hg : Gl X "max" := by rfl) (hc : X.calm = true := by rfl)
    (he : starEach (x :: xs) X.env = (false, eval x X.env) :: starEach xs X.env := by rfl) (hpl : (backTo pos (starEach xs X.env)).any (·.1) = false := by rfl) : PE X (.Call (.Name "max" pp) (x :: xs) [] pos) (tE G W OX O O1 (eN pMax2 f)) :=
  e_cB pMax2 (call_max2 hc) (fun σ F H r ds vs d Q S rs e q => by
    unfold pMax2 at e
    split at e
    · cases e
      cases rs with
      | cons r1 rr =>
        cases rr with
        | cons r2 rr => cases rr; cases r1; cases r2; exact ⟨_, _, rfl, q.ok S .int⟩
    · cases e) ha hm (hg := hg) (he := he) (hpl := hpl)
theorem e_min2 {x : Expr} {xs : List Expr} {pp pos : Pos} {f : M (List D)} (ha : PA X (x :: xs) (tA G W OX O O1 f)) (hm : X.mg "min" = none := by assumption) (hg : Gl X "min" := by rfl) (hc : X.calm = true := by rfl)
    (he : starEach (x :: xs) X.env = (false, eval x X.env) :: starEach xs X.env := by rfl) (hpl : (backTo pos (starEach xs X.env)).any (·.1) = false := by rfl) : PE X (.Call (.Name "min" pp) (x :: xs) [] pos) (tE G W OX O O1 (eN pMin2 f)) :=
  e_cB pMin2 (call_min2 hc) (fun σ F H r ds vs d Q S rs e q => by
    unfold pMin2 at e
    split at e
    · cases e
      cases rs with
      | cons r1 rr =>
        cases rr with
        | cons r2 rr => cases rr; cases r1; cases r2; exact ⟨_, _, rfl, q.ok S .int⟩
    · cases e) ha hm (hg := hg) (he := he) (hpl := hpl)
/-- list(e): a new list of this code's own -/
theorem e_listF {x : Expr} {xs : List Expr} {pp pos : Pos} {f : M (List D)} (ha : PA X (x :: xs) (tA G W OX O O1 f)) (hm : X.mg "list" = none := by assumption) (hg : Gl X "list" := by rfl) (hK : X.K = G.K := by rfl)
    (he : starEach (x :: xs) X.env = (false, eval x X.env) :: starEach xs X.env := by rfl) (hpl : (backTo pos (starEach xs X.env)).any (·.1) = false := by rfl) : PE X (.Call (.Name "list" pp) (x :: xs) [] pos) (tF G W OX O O1 (eN pList f)) :=
  (pe_callTy call_list_of hg hm (by decide +kernel) ha (by decide) (by decide) he hpl).imp fun σ H Q ⟨F, r, S, q⟩ => tX_bind S q fun ds vs F1 H1 r1 n1 rs q => by
    revert q
    cases e : pList ds with
    | none => exact fun q => q.elim
    | some d =>
      intro q
      unfold pList at e
      split at e
      · obtain ⟨l, e1, e2⟩ := Option.map_eq_some_iff.mp e
        subst e2
        cases rs with
        | cons r1 rr =>
          cases rr
          rw [hK]
          obtain ⟨a, ys, rfl, hq, rl⟩ := r1.items n1.sta.sub e1
          refine ⟨a, ys, rfl, hq, fun p hp => ?_⟩
          obtain ⟨S2, s2, fp⟩ := new_ow (o := .lst ys) n1.sta hp rfl
          refine q _ F1 _ (Nx.of S2 s2 fun _ h => h) ⟨.lst upd_same fp rl, fun b eb => ?_⟩
          cases eb
          refine ⟨n1.stp.tr _ hp, fun ⟨i, hi, ei⟩ => ?_⟩
          obtain ⟨d', v', _, e2', ow⟩ := n1.sta.ow i hi
          rw [ei] at e2'
          cases e2'
          obtain ⟨b, o, eb, hb⟩ := ow.there
          cases eb
          rw [hp] at hb
          cases hb
      · cases e

/-! ### isinstance -/
def tyN : D → Option String
  | .non => some "NoneType"
  | .bl _ => some "bool"
  | .int _ => some "int"
  | .str _ => some "str"
  | .tup _ => some "tuple"
  | .lst _ => some "list"
  | .kl _ => some "list"
  | .dic _ _ => some "dict"
  | _ => none
def bTys : List String := ["int", "bool", "str", "list", "tuple", "dict"]
/-- isinstance by a built-in type -/
def kT (cls : List Nat) (n : String) (x : D) : Option Bool := match x with
  | .ob c _ => if cls.contains c then some false else none
  | x => (tyN x).map fun m => m == n || (m == "bool" && n == "int")
/-- .. by a class of the text: the classes that are of it -/
def kO (tb : List (Nat × Bool)) (x : D) : Option Bool := match x with
  | .ob c _ => tb.lookup c
  | x => (tyN x).map fun _ => false
def kAny (ks : List (D → Option Bool)) (x : D) : Option Bool := match ks with
  | [] => some false
  | k :: ks => (k x).bind fun b => if b then some true else kAny ks x
@[simp] def eIsi (k : D → Option Bool) (f : M D) : M D := fun r => (f r).bind fun x r1 => match k x with
  | some b => .ok (.bl b) r1
  | none => .no
structure TyOk (G : Gm) (c : Nat) : Prop where
  cl : Cls G.K (G.cA c)
  ha : PySem.W.findIn G.K (.ref (G.cA c)) "__class__" = some (some (.builtin "object.__class__"))
  hn : PySem.W.specialIn G.K (.builtin "object.__class__") "__get__" = some (some (.builtin "getset_descriptor.__get__"))
  ht : PySem.W.takesIn G.K (.builtin "object.__class__") = some true
  hm : PySem.W.mroIn G.K (G.cA c) (.type "object") = some true
/-- the tree's type -/
def tyV (G : Gm) : D → Option Value
  | .ob c _ => some (.ref (G.cA c))
  | x => (tyN x).map Value.type
theorem Rep.ty {F H : Hp} {x : D} {v : V} {t : Value} (sb : Sub F H) (h : Rep G F x v) (ht : ∀ c l, x = .ob c l → TyOk G c) (e : tyV G x = some t) : TyX G.K H v t := by
  cases h with
  | non => cases e; exact .base .non
  | bl => cases e; exact .base (.bl _)
  | int => cases e; exact .base (.int _)
  | str => cases e; exact .base (.str _)
  | tup h r =>
    cases e
    rcases sb.sqT h with (e | ⟨o, e⟩) | ⟨o, its, n, e, c, _⟩
    · exact .base (.tup e)
    · exact .fTuple e
    · exact .kTuple e c
  | lst h r =>
    cases e
    obtain ⟨o', e', g⟩ := sb _ _ h
    rw [g.lst] at e'
    exact .base (.lst e')
  | kl h r =>
    cases e
    rcases sb.sqL h with (e | ⟨o, e⟩) | ⟨o, its, n, e, c, _⟩
    · exact .base (.lst e)
    · exact .base (.frz e)
    · exact .kList e c
  | dic h _ r =>
    cases e
    obtain ⟨o', e', g⟩ := sb _ _ h
    rw [g.dK] at e'
    exact .base (.dK e')
  | @ob c l a dx xs more h hl r =>
    cases e
    obtain ⟨o', e', g⟩ := sb _ _ h
    obtain ⟨m, eo⟩ := g.ins
    subst eo
    have k := ht c l rfl
    exact .base (.ins e' k.cl k.ha k.hn k.ht k.hm)
/-- k answers isinstance(x, u) -/
structure Kn (G : Gm) (u : Value) (k : D → Option Bool) : Prop where
  at_ : ∀ x b, k x = some b → ∃ t, tyV G x = some t ∧ (∀ c l, x = .ob c l → TyOk G c) ∧ PySem.W.kitOne G.K t u = some b
def allTy : List String := ["NoneType", "bool", "int", "str", "tuple", "list", "dict"]
theorem kitB_all : (allTy.all fun m => bTys.all fun n => kitB m n == some (m == n || (m == "bool" && n == "int"))) = true := by decide +kernel
theorem tyN_in {x : D} {m : String} (e : tyN x = some m) : m ∈ allTy := by
  cases x <;> simp [tyN] at e <;> subst e <;> decide
theorem tyV_of {x : D} {m : String} (e : tyN x = some m) : tyV G x = some (.type m) := by
  cases x <;> simp [tyN] at e <;> subst e <;> rfl
theorem kn_ty {n : String} (cls : List Nat) (hc : ∀ c ∈ cls, TyOk G c ∧ PySem.W.kitOne G.K (.ref (G.cA c)) (.type n) = some false) (hn : n ∈ bTys := by decide) : Kn G (.type n) (kT cls n) := ⟨fun x b e => by
  have key : ∀ m, tyN x = some m → (tyN x).map (fun m => m == n || (m == "bool" && n == "int")) = some b → ∃ t, tyV G x = some t ∧ (∀ c l, x = .ob c l → TyOk G c) ∧ PySem.W.kitOne G.K t (.type n) = some b := fun m e1 e => by
    rw [e1] at e
    refine ⟨.type m, tyV_of e1, fun c l z => (by subst z; cases e1), ?_⟩
    have h := List.all_eq_true.mp (List.all_eq_true.mp kitB_all m (tyN_in e1)) n hn
    rw [beq_iff_eq] at h
    exact (kit_ty h).trans e
  cases x with
  | ob c l =>
    unfold kT at e
    split at e
    · rename_i c' l' z
      cases z
      split at e
      · rename_i hm
        cases e
        obtain ⟨h1, h2⟩ := hc c (by simpa using hm)
        exact ⟨_, rfl, fun c' l' z => (by cases z; exact h1), h2⟩
      · cases e
    · rename_i h
      exact absurd rfl (h c l)
  | xo c l => cases e
  | non => exact key _ rfl e
  | bl b => exact key _ rfl e
  | int i => exact key _ rfl e
  | str s => exact key _ rfl e
  | tup l => exact key _ rfl e
  | lst l => exact key _ rfl e
  | kl l => exact key _ rfl e
  | dic ks l => exact key _ rfl e⟩
theorem kn_own {k : Nat} (tb : List (Nat × Bool)) (hc : ∀ c b, tb.lookup c = some b → TyOk G c ∧ PySem.W.kitOne G.K (.ref (G.cA c)) (.ref (G.cA k)) = some b) (hb : ∀ m ∈ allTy, PySem.W.kitOne G.K (.type m) (.ref (G.cA k)) = some false) : Kn G (.ref (G.cA k)) (kO tb) := ⟨fun x b e => by
  have key : ∀ m, tyN x = some m → (tyN x).map (fun _ => false) = some b → ∃ t, tyV G x = some t ∧ (∀ c l, x = .ob c l → TyOk G c) ∧ PySem.W.kitOne G.K t (.ref (G.cA k)) = some b := fun m e1 e => by
    rw [e1] at e
    cases e
    exact ⟨.type m, tyV_of e1, fun c l z => (by subst z; cases e1), hb m (tyN_in e1)⟩
  cases x with
  | ob c l =>
    obtain ⟨h1, h2⟩ := hc c b e
    exact ⟨_, rfl, fun c' l' z => (by cases z; exact h1), h2⟩
  | xo c l => cases e
  | non => exact key _ rfl e
  | bl b => exact key _ rfl e
  | int i => exact key _ rfl e
  | str s => exact key _ rfl e
  | tup l => exact key _ rfl e
  | lst l => exact key _ rfl e
  | kl l => exact key _ rfl e
  | dic ks l => exact key _ rfl e⟩
/-- the class in isinstance(x, C): its value -/
structure CVl (X : Cx) (c : Expr) (v : V) (u : Value) : Prop where
  pe : PE X c (tC v)
  cv : ClsV v u
theorem cv_ty {x : Str} {n : String} {pos : Pos} (hm : X.mg x = none := by assumption) (hv : bootBuiltins x = some (.type n) := by decide +kernel) (hg : Gl X x := by rfl) (hn : x ≠ "__name__" := by decide) (hdb : (x == ("__debug__" : Str)) = false := by decide) : CVl X (.Name x pos) (.ty n) (.type n) :=
  ⟨⟨fun pins s σ H Q I q => ld_blt I hg hm hv ⟨.ty n, H, I, rfl, q⟩ hn hdb⟩, .ty n⟩
theorem cv_own {x : Str} {C : Addr} {pos : Pos} (hm : X.mg x = some (.ref C)) (hg : Gl X x := by rfl) (hdb : (x == ("__debug__" : Str)) = false := by decide) : CVl X (.Name x pos) (.ref C) (.ref C) :=
  ⟨pe_glob hg hm rfl hdb, .own C⟩
theorem e_isi {e c : Expr} {pp pos : Pos} {f : M D} {v : V} {u : Value} {k : D → Option Bool} (he : PE X e (tE G W OX O O1 f)) (hc : CVl X c v u) (hk : Kn G u k) (hm : X.mg "isinstance" = none := by assumption) (hg : Gl X "isinstance" := by rfl) (hK : X.K = G.K := by rfl)
    (hs : starEach [e, c] X.env = (false, eval e X.env) :: starEach [c] X.env := by rfl) (hs2 : starEach [c] X.env = (false, eval c X.env) :: starEach [] X.env := by rfl) (hpl : (backTo pos (starEach [c] X.env)).any (·.1) = false := by rfl) :
    PE X (.Call (.Name "isinstance" pp) [e, c] [] pos) (tE G W OX O O1 (eIsi k f)) :=
  (pe_callB call_isi hg hm (by decide +kernel) (pa_cons he (pa_cons hc.pe pa_nil hs2) hs) (by decide) (by decide) hs hpl).imp fun σ H Q ⟨F, r, S, q⟩ => tX_bind S q fun x w F1 H1 r1 n1 rx q => by
    revert q
    cases e1 : k x with
    | none => exact fun q => q.elim
    | some b =>
      intro q
      obtain ⟨t, e2, e3, e4⟩ := hk.at_ x b e1
      rw [hK]
      exact ⟨w, v, t, u, b, rfl, hc.cv, rx.ty n1.sta.sub e3 e2, e4, q.ok n1.sta .bl⟩
/-- isinstance(x, (C, ..)) -/
structure CVs (G : Gm) (X : Cx) (cs : List Expr) (vs : List V) (us : List Value) (ks : List (D → Option Bool)) : Prop where
  pa : PA X cs (fun σ H Q => Q vs H)
  cv : Paired ClsV vs us
  kn : ∀ x b, kAny ks x = some b → cs ≠ [] → ∃ t, tyV G x = some t ∧ (∀ c l, x = .ob c l → TyOk G c) ∧ PySem.W.kitAny G.K t us = some b
theorem cvs_nil : CVs G X [] [] [] [] := ⟨pa_nil, .nil, fun _ _ _ z => absurd rfl z⟩
theorem cvs_cons {c : Expr} {cs : List Expr} {v : V} {vs : List V} {u : Value} {us : List Value} {k : D → Option Bool} {ks : List (D → Option Bool)} (h : CVl X c v u) (hk : Kn G u k) (ht : CVs G X cs vs us ks) (hs : starEach (c :: cs) X.env = (false, eval c X.env) :: starEach cs X.env := by rfl)
    (h0 : cs = [] → us = [] ∧ ks = [] := by first | exact fun _ => ⟨rfl, rfl⟩ | exact fun z => nomatch z) : CVs G X (c :: cs) (v :: vs) (u :: us) (k :: ks) := by
  refine ⟨pa_cons h.pe ht.pa hs, .cons h.cv ht.cv, fun x b e _ => ?_⟩
  unfold kAny at e
  obtain ⟨b1, e1, e2⟩ := Option.bind_eq_some_iff.mp e
  obtain ⟨t, h1, h2, h3⟩ := hk.at_ x b1 e1
  refine ⟨t, h1, h2, kitAny_cons h3 (fun z => ?_) fun z => ?_⟩
  · rw [if_neg (by simp [z])] at e2
    by_cases hc : cs = []
    · obtain ⟨q1, q2⟩ := h0 hc
      subst q1 q2
      cases e2
      exact kitAny_nil
    · obtain ⟨t', h4, _, h5⟩ := ht.kn x b e2 hc
      rw [h1] at h4
      cases h4
      exact h5
  · rw [if_pos z] at e2
    cases e2
    rfl
theorem e_isT {e c : Expr} {cs : List Expr} {kk : Nat} {pp pt pos : Pos} {f : M D} {v : List V} {u : List Value} {ks : List (D → Option Bool)} (he : PE X e (tE G W OX O O1 f)) (hc : CVs G X (c :: cs) v u ks) (hm : X.mg "isinstance" = none := by assumption) (hg : Gl X "isinstance" := by rfl) (hK : X.K = G.K := by rfl)
    (hz : v.length ≤ 64 := by decide)
    (hs : starEach [e, .Tuple (c :: cs) kk pt] X.env = (false, eval e X.env) :: starEach [.Tuple (c :: cs) kk pt] X.env := by rfl) (hs2 : starEach [.Tuple (c :: cs) kk pt] X.env = (false, eval (.Tuple (c :: cs) kk pt) X.env) :: starEach [] X.env := by rfl) (hpl : (backTo pos (starEach [.Tuple (c :: cs) kk pt] X.env)).any (·.1) = false := by rfl) :
    PE X (.Call (.Name "isinstance" pp) [e, .Tuple (c :: cs) kk pt] [] pos) (tE G W OX O O1 (eIsi (kAny ks) f)) :=
  have ht : PE X (.Tuple (c :: cs) kk pt) (fun σ H Q => ∀ p, H p = none → Q (.ref p) (upd H p (.tup v))) := (pe_tup hc.pa).imp fun σ H Q q => ⟨Nat.le_trans hz (by rw [sizeLine_eq]; decide), q⟩
  (pe_callB call_isiT hg hm (by decide +kernel) (pa_cons he (pa_cons ht pa_nil hs2) hs) (by decide) (by decide) hs hpl).imp fun σ H Q ⟨F, r, S, q⟩ => tX_bind S q fun x w F1 H1 r1 n1 rx q => by
    revert q
    cases e1 : kAny ks x with
    | none => exact fun q => q.elim
    | some b =>
      intro q p hp
      obtain ⟨t, e2, e3, e4⟩ := hc.kn x b e1 (fun z => nomatch z)
      obtain ⟨S2, s2⟩ := new_fz (o := .tup v) n1.sta hp rfl
      rw [hK]
      exact ⟨w, p, v, t, u, b, rfl, upd_same, hc.cv, (rx.mono s2.fz).ty S2.sub e3 e2, e4, q _ _ _ (Nx.of S2 s2 fun _ h => h) .bl⟩
end
end Z

/-! Assignment, attribute stores, own lists. -/
namespace Z
open PySem PySem.Spec PyProof.Rows L2

/-- target = value, several names -/
@[simp] def sTg (g : Tg) (f : M D) : M Fl := fun r => (f r).bind fun d r1 => match g d r1 with
  | some r2 => .ok .nx r2
  | none => .no
@[simp] def sPar (gs : List Tg) (f : M (List D)) : M Fl := fun r => (f r).bind fun ds r1 => match gTs gs ds r1 with
  | some r2 => .ok .nx r2
  | none => .no
/-- a new object of this code's own in a slot -/
@[simp] def sAsF (i : Nat) (f : M D) : M Fl := fun r => (f r).bind fun d r1 => if i < r1.length then .ok .nx (r1.set i (some d)) else .no
@[simp] def sFl (i : Nat) (tb : List (Nat × Nat)) (f : M D) : M Fl := fun r => (f r).bind fun d r1 => match r1[i]? with
  | some (some (.ob c l)) => (match tb.lookup c with
    | some j => if j = l.length then .ok .nx (r1.set i (some (.ob c (l ++ [d])))) else .no
    | none => .no)
  | _ => .no
def ixSet (l : List D) (y d : D) : Option (List D) := match y with
  | .int k => (ixN l.length k).map fun j => l.set j d
  | _ => none
@[simp] def sIx (i : Nat) (f g : M D) : M Fl := fun r => (f r).bind fun d r1 => (g r1).bind fun y r2 => match r2[i]? with
  | some (some (.lst l)) => (match ixSet l y d with
    | some m => .ok .nx (r2.set i (some (.lst m)))
    | none => .no)
  | _ => .no

section
variable {G : Gm} {X : Cx} {W : WX} {OX OL vs O O1 O2 O3 : List Nat}
theorem s_asg {tg e : Expr} {pos : Pos} {g : Tg} {f : M D} (he : PE X e (tE G W OX O O1 f)) (hg : PG X tg (tG G OX vs O1 O2 g)) (hs : swapsWithSole [tg] e pos.line X.env = pure false := by rfl) (hw : swappedStores [tg] e X.env = pure none := by rfl) (h1 : (assignEach [tg] X.env).map (·.2) = [assign tg X.env] := by rfl) :
    PS X (.Assign [tg] e pos) (tS G W OX OL O O2 (sTg g f)) :=
  (ps_asg he hg hs hw h1).imp fun Dn σ H ⟨F, r, S, p⟩ => tS_bind S p fun d v F1 H1 r1 n1 rd p => by
    revert p
    cases e1 : g d r1 with
    | none => exact fun p => p.elim
    | some r2 => exact fun p => ⟨F1, r1, d, r2, n1.sta, rd, e1, fun σ2 n2 _ => p σ2 F1 H1 n2⟩
theorem s_par2 {x y : Str} {a b : Expr} {px py pt pos : Pos} {kt k2 pt2} {f : M (List D)} (i j : Nat) (ha : PA X [a, b] (tA G W OX O O1 f)) (hx1 : i ∉ OX := by decide) (hx2 : j ∉ OX := by decide) (hij : i ≠ j := by decide) (hN : X.N.Nodup := by first | assumption | decide +kernel) (hi : X.N[i]? = some x := by rfl) (hj : X.N[j]? = some y := by rfl)
    (hx : X.env.scope.names.lookup x = some .local := by rfl) (hy : X.env.scope.names.lookup y = some .local := by rfl) (hc : X.calm = true := by rfl) (hw : swappedStores [.Tuple [.Name x px, .Name y py] kt pt] (.Tuple [a, b] k2 pt2) X.env = pure (some [x, y]) := by rfl)
    (hs : swapsWithSole [.Tuple [.Name x px, .Name y py] kt pt] (.Tuple [a, b] k2 pt2) pos.line X.env = pure false := by rfl) : PS X (.Assign [.Tuple [.Name x px, .Name y py] kt pt] (.Tuple [a, b] k2 pt2) pos) (tS G W OX OL O ((O1.filter (· != i)).filter (· != j)) (sPar [gN i, gN j] f)) :=
  (ps_par hc hN hi hj hij hx hy ha hw hs).imp fun Dn σ H ⟨F, r, S, p⟩ => tS_bind S p fun ds vs F1 H1 r1 n1 rs p => by
    match rs, p with
    | .cons ra (.cons rb .nil), p =>
      have m1 := nx_set (OX := OX) i n1.sta ra hx1
      have m2 := nx_set (OX := OX) j m1.sta rb hx2
      exact ⟨_, _, rfl, p _ _ _ (m1.trans m2)⟩
    | .nil, p => exact p.elim
    | .cons _ .nil, p => exact p.elim
    | .cons _ (.cons _ (.cons _ _)), p => exact p.elim
theorem s_par3 {x y z : Str} {a b c : Expr} {px py pz pt pos : Pos} {kt k2 pt2} {f : M (List D)} (i j l : Nat) (ha : PA X [a, b, c] (tA G W OX O O1 f)) (hx1 : i ∉ OX := by decide) (hx2 : j ∉ OX := by decide) (hx3 : l ∉ OX := by decide) (hij : i ≠ j := by decide) (hil : i ≠ l := by decide) (hjl : j ≠ l := by decide) (hN : X.N.Nodup := by first | assumption | decide +kernel) (hi : X.N[i]? = some x := by rfl) (hj : X.N[j]? = some y := by rfl) (hl : X.N[l]? = some z := by rfl)
    (hx : X.env.scope.names.lookup x = some .local := by rfl) (hy : X.env.scope.names.lookup y = some .local := by rfl) (hz : X.env.scope.names.lookup z = some .local := by rfl) (hc : X.calm = true := by rfl) (hw : swappedStores [.Tuple [.Name x px, .Name y py, .Name z pz] kt pt] (.Tuple [a, b, c] k2 pt2) X.env = pure (some [x, y, z]) := by rfl)
    (hs : swapsWithSole [.Tuple [.Name x px, .Name y py, .Name z pz] kt pt] (.Tuple [a, b, c] k2 pt2) pos.line X.env = pure false := by rfl) : PS X (.Assign [.Tuple [.Name x px, .Name y py, .Name z pz] kt pt] (.Tuple [a, b, c] k2 pt2) pos) (tS G W OX OL O (((O1.filter (· != i)).filter (· != j)).filter (· != l)) (sPar [gN i, gN j, gN l] f)) :=
  (ps_par3 hc hN hi hj hl hij hil hjl hx hy hz ha hw hs).imp fun Dn σ H ⟨F, r, S, p⟩ => tS_bind S p fun ds vs F1 H1 r1 n1 rs p => by
    match rs, p with
    | .cons ra (.cons rb (.cons rc .nil)), p =>
      have m1 := nx_set (OX := OX) i n1.sta ra hx1
      have m2 := nx_set (OX := OX) j m1.sta rb hx2
      have m3 := nx_set (OX := OX) l m2.sta rc hx3
      exact ⟨_, _, _, rfl, p _ _ _ ((m1.trans m2).trans m3)⟩
    | .nil, p => exact p.elim
    | .cons _ .nil, p => exact p.elim
    | .cons _ (.cons _ .nil), p => exact p.elim
    | .cons _ (.cons _ (.cons _ (.cons _ _))), p => exact p.elim
/-- a new object is bound -/
theorem own_set {σ : L2.St} {F H F1 H1 : Hp} {r1 : Ev} {d : D} {v : V} (i : Nat) (n1 : Nx G OX O O1 σ F H σ F1 H1 r1) (h : RF G O1 σ H F1 H1 d v) (hi : i < r1.length) (hx : i ∉ OX) : Nx G OX O (i :: O1.filter (· != i)) σ F H (σ.set i (some v)) F1 H1 (r1.set i (some d)) := by
  refine ⟨n1.sta.setOwn i h.1 hi fun a ea => (h.2 a ea).2, n1.stp, fun j hj => ?_, fun a m => ?_⟩
  · exact List.getElem?_set_ne (fun z : i = j => hx (by rw [z]; exact hj))
  · obtain ⟨j, hj, e⟩ := m
    by_cases q : i = j
    · subst q
      rw [List.getElem?_set_self (by rw [← n1.sta.len]; exact hi)] at e
      cases e
      exact .inr (h.2 a rfl).1
    · rcases List.mem_cons.mp hj with z | hj
      · exact absurd z.symm q
      rw [List.getElem?_set_ne q] at e
      exact n1.pv a ⟨j, (List.mem_filter.mp hj).1, e⟩
theorem asF_of {σ : L2.St} {H : Hp} {f : M D} {i : Nat} {Dn : Ends} (hx : i ∉ OX) (h : tS G W OX OL O (i :: O1.filter (· != i)) (sAsF i f) Dn σ H) : tF G W OX O O1 f σ H fun v H1 => Dn.nx (σ.set i (some v)) H1 := by
  obtain ⟨F, r, S, p⟩ := h
  refine ⟨F, r, S, ?_⟩
  simp only [sAsF] at p
  revert p
  cases f r with
  | no => exact fun p => p.elim
  | ex e q => exact fun p c dx F' H' n x => p c dx σ F' H' n x
  | ok d r1 =>
    intro p v F1 H1 n1 rf
    have p : PstS G W OX OL O (i :: O1.filter (· != i)) σ F H Dn (if i < r1.length then .ok .nx (r1.set i (some d)) else .no) := p
    split at p
    · rename_i hi
      exact p _ _ _ (own_set i n1 rf hi hx)
    · exact p.elim
theorem s_setF {x : Str} {e : Expr} {pos pos' : Pos} {f : M D} (i : Nat) (he : PE X e (tF G W OX O O1 f)) (hx : i ∉ OX := by decide) (hN : X.N.Nodup := by first | assumption | decide +kernel) (hi : X.N[i]? = some x := by rfl) (hl : Loc X.env.scope x := by first | exact Or.inl rfl | exact Or.inr rfl)
    (hs : swapsWith e (some (.Name x pos')) pos.line X.env = pure false := by rfl) (hf : X.fn x = true ∨ X.env.scope.names.lookup x = some .local := by first | exact .inl rfl | exact .inr rfl | assumption) :
    PS X (.Assign [.Name x pos'] e pos) (tS G W OX OL O (i :: O1.filter (· != i)) (sAsF i f)) :=
  (ps_set hN hi hl he hs hf).imp fun Dn σ H h => asF_of hx h
/-- name = [.. for ..] on one line -/
theorem s_setLcF {x : Str} {pos' : Pos} {elt tg iter : Expr} {ifs : List Expr} {scope : Scope} {pos spos : Pos} {it : M (List D)} {g : Tg} {t : M Bool} {f : M D} (i : Nat) (own : List (Str × Nat)) (hvs : own.map (·.2) = vs) (hi : PI X tg iter (iIt G W OX O O1 it)) (ok : BlkOk X.N X.env.scope scope own)
    (hg : ∀ (s : Shared) (H : Hp) (C : Addr) (cl : List (Str × Addr)) (fp : List Addr), PG (X.blk s H scope (compEnvC scope cl C X.env) fp) tg (tG G [] vs O1 O1 g)) (ht : ∀ (s : Shared) (H : Hp) (C : Addr) (cl : List (Str × Addr)) (fp : List Addr), PTs (X.blk s H scope (compEnvC scope cl C X.env) fp) ifs (tT G (fun _ _ _ _ => False) [] O1 O1 t))
    (he : ∀ (s : Shared) (H : Hp) (C : Addr) (cl : List (Str × Addr)) (fp : List Addr), PE (X.blk s H scope (compEnvC scope cl C X.env) fp) elt (tE G (fun _ _ _ _ => False) [] O1 O1 f)) (hsw : swapsWith (.ListComp elt [⟨tg, iter, ifs, 0⟩] scope pos) (some (.Name x pos')) spos.line X.env = pure true := by rfl) (hx : i ∉ OX := by decide) (hN : X.N.Nodup := by first | assumption | decide +kernel) (hy : X.N[i]? = some x := by rfl)
    (hyl : X.env.scope.names.lookup x = some .local := by rfl) (hd : ∀ i ∈ vs, i ∉ O1 := by decide) (hc : X.calm = true := by rfl) (hs : ∀ x, foldedSetIterable iter X.env x = pure x := by intro _; rfl) :
    PS X (.Assign [.Name x pos'] (.ListComp elt [⟨tg, iter, ifs, 0⟩] scope pos) spos) (tS G W OX OL O (i :: O1.filter (· != i)) (sAsF i (eLc vs it g t f))) :=
  (ps_setLc hc hN hy hyl hsw hi ok hg ht he hs).imp fun Dn σ H h => lc_imp hvs hd σ H _ (asF_of hx h)
theorem s_setLc {x : Str} {pos' : Pos} {elt tg iter : Expr} {ifs : List Expr} {scope : Scope} {pos spos : Pos} {it : M (List D)} {g : Tg} {t : M Bool} {f : M D} (i : Nat) (own : List (Str × Nat)) (hvs : own.map (·.2) = vs) (hi : PI X tg iter (iIt G W OX O O1 it)) (ok : BlkOk X.N X.env.scope scope own)
    (hg : ∀ (s : Shared) (H : Hp) (C : Addr) (cl : List (Str × Addr)) (fp : List Addr), PG (X.blk s H scope (compEnvC scope cl C X.env) fp) tg (tG G [] vs O1 O1 g)) (ht : ∀ (s : Shared) (H : Hp) (C : Addr) (cl : List (Str × Addr)) (fp : List Addr), PTs (X.blk s H scope (compEnvC scope cl C X.env) fp) ifs (tT G (fun _ _ _ _ => False) [] O1 O1 t))
    (he : ∀ (s : Shared) (H : Hp) (C : Addr) (cl : List (Str × Addr)) (fp : List Addr), PE (X.blk s H scope (compEnvC scope cl C X.env) fp) elt (tE G (fun _ _ _ _ => False) [] O1 O1 f)) (hsw : swapsWith (.ListComp elt [⟨tg, iter, ifs, 0⟩] scope pos) (some (.Name x pos')) spos.line X.env = pure true := by rfl) (hx : i ∉ OX := by decide) (hN : X.N.Nodup := by first | assumption | decide +kernel) (hy : X.N[i]? = some x := by rfl)
    (hyl : X.env.scope.names.lookup x = some .local := by rfl) (hd : ∀ i ∈ vs, i ∉ O1 := by decide) (hc : X.calm = true := by rfl) (hs : ∀ x, foldedSetIterable iter X.env x = pure x := by intro _; rfl) :
    PS X (.Assign [.Name x pos'] (.ListComp elt [⟨tg, iter, ifs, 0⟩] scope pos) spos) (tS G W OX OL O (O1.filter (· != i)) (sAs i (eLc vs it g t f))) :=
  (ps_setLc hc hN hy hyl hsw hi ok hg ht he hs).imp fun Dn σ H ⟨F, r, S, p⟩ => lc_imp hvs hd σ H _ (ffz (tS_bind S p fun d v F1 H1 r1 n1 rd p => p _ F1 H1 (nx_set i n1.sta rd hx)))
/-- an owned object is written -/
theorem Sta.wr {σ : L2.St} {F H : Hp} {r : Ev} {a : Addr} {o' : HO} {d' : D} (S : Sta G O F H σ r) {i : Nat} (hi : i ∈ O) (ev : σ[i]? = some (some (.ref a))) (ho : Own G F (upd H a o') d' (.ref a)) (sb : Sub F (upd H a o')) (wf : Wf G (upd H a o')) :
    Nx G OX O O σ F H σ F (upd H a o') (r.set i (some d')) := by
  have st : Stp (fun x => x = a) F H F (upd H a o') := ⟨.rfl', fun b u e n => by rw [upd_ne n]; exact e, fun _ _ _ _ => rfl, fun _ e => upd_none e⟩
  have hl : i < r.length := by
    obtain ⟨d, _, e, _⟩ := S.ow i hi
    exact (List.getElem?_eq_some_iff.mp e).1
  refine Nx.of ⟨sb, wf, by simp [S.len], fun j d hj e => ?_, fun j hj => ?_, S.dj⟩ (st.weak fun x z => ⟨i, hi, by rw [z]; exact ev⟩) fun _ h => h
  · rw [List.getElem?_set_ne (fun z : i = j => hj (z ▸ hi))] at e
    exact S.rp j d hj e
  · by_cases q : i = j
    · subst q
      exact ⟨d', .ref a, List.getElem?_set_self hl, ev, ho⟩
    · obtain ⟨dj, vj, e1, e2, oj⟩ := S.ow j hj
      exact ⟨dj, vj, by rw [List.getElem?_set_ne q]; exact e1, e2, oj.mono st fun b eb z => q (S.dj i j a hi hj ev (by rw [e2, eb, z]))⟩
theorem sub_wr {F H : Hp} {a : Addr} {o' : HO} (sb : Sub F H) (hf : F a = none) : Sub F (upd H a o') := fun b u e => by
  obtain ⟨o, e', g⟩ := sb b u e
  exact ⟨o, by rw [upd_ne fun z => (by rw [z, hf] at e; cases e)]; exact e', g⟩
theorem s_ix {x : Str} {b e : Expr} {pos pos' px : Pos} {f g : M D} (i : Nat) (he : PE X e (tE G W OX O O1 f)) (hb : PE X b (tE G W OX O1 O2 g)) (hO : i ∈ O1 := by decide) (hi : i ∈ O2 := by decide) (hN : X.N[i]? = some x := by rfl) (hv : Vis X.env.scope x := by first | exact Or.inl rfl | exact Or.inr (Or.inl rfl) | exact Or.inr (Or.inr rfl))
    (hd : (x == ("__debug__" : Str)) = false := by decide) (hcd : (x == ("__classdict__" : Str)) = false := by decide) (ha : ∀ v, assign (.Subscript (.Name x px) b pos') X.env v = (do
      let ov ← holding [v] (eval (.Name x px) X.env)
      let iv ← holding [v, ov] (eval b X.env)
      standAt pos'
      holding [v, ov, iv] (setItem ov iv v)
      release [v, ov, iv] []) := by intros; rfl) (hs : swapsWithSole [.Subscript (.Name x px) b pos'] e pos.line X.env = pure false := by rfl) (hw : swappedStores [.Subscript (.Name x px) b pos'] e X.env = pure none := by rfl) (h1 : (assignEach [.Subscript (.Name x px) b pos'] X.env).map (·.2) = [assign (.Subscript (.Name x px) b pos') X.env] := by rfl) :
    PS X (.Assign [.Subscript (.Name x px) b pos'] e pos) (tS G W OX OL O O2 (sIx i f g)) :=
  (ps_asg he (pg_sub (pe_var hN hv hd hcd) hb set_list ha) hs hw h1).imp fun Dn σ H ⟨F, r, S, p⟩ => tS_bind S p fun d v F1 H1 r1 n1 rd p => by
    obtain ⟨d0, v0, e1, e2, o0⟩ := n1.sta.ow i hO
    refine ⟨v0, e2, tS_bind n1.sta p fun y w F2 H2 r2 n2 ry p => ?_⟩
    revert p
    split
    · rename_i l e3
      intro p
      obtain ⟨v1, e4, o⟩ := n2.sta.own_at hi e3
      rw [e2] at e4
      cases e4
      revert p
      cases em : ixSet l y d with
      | none => exact fun p => p.elim
      | some m =>
        intro p
        unfold ixSet at em
        split at em
        · obtain ⟨j, e5, e6⟩ := Option.map_eq_some_iff.mp em
          subst e6
          cases ry
          cases o with
          | @lst _ a xs h hf rr =>
            refine ⟨a, xs, _, j, rfl, rfl, h, by rw [← rr.length]; exact e5, p _ _ _ (n2.sta.wr hi e2 (.lst upd_same hf (rr.set (rd.mono n2.stp.fz) j)) (sub_wr n2.sta.sub hf) (n2.sta.wf.upd rfl))⟩
        · cases em
    · exact fun p => p.elim
theorem putF_zip : ∀ {lay : List Str} {xs : List V} {f : Str} {y : V}, lay.Nodup → lay[xs.length]? = some f → putF f y (lay.zip xs) = lay.zip (xs ++ [y])
  | [], _, _, _, _, e => by simp at e
  | a :: lay, [], f, y, nd, e => by
    simp at e
    subst e
    simp [putF]
  | a :: lay, x :: xs, f, y, nd, e => by
    have e : lay[xs.length]? = some f := by simpa using e
    have hne : ¬ a = f := fun z => (List.nodup_cons.mp nd).1 (by rw [z]; exact List.mem_of_getElem? e)
    rw [List.zip_cons_cons, putF, if_neg hne, List.cons_append, List.zip_cons_cons, putF_zip (List.nodup_cons.mp nd).2 e]
theorem lookup_zip : ∀ {lay : List Str} {xs : List V} {g : Str}, (lay.zip xs).lookup g ≠ none → g ∈ lay
  | [], _, _, h => absurd rfl h
  | _ :: _, [], _, h => absurd rfl h
  | a :: lay, x :: xs, g, h => by
    rw [List.zip_cons_cons, List.lookup_cons] at h
    split at h
    · rename_i q
      rw [beq_iff_eq.mp q]
      exact List.mem_cons_self
    · exact List.mem_cons_of_mem _ (lookup_zip h)
theorem s_fld {x f : Str} {e : Expr} {pos pos' px : Pos} {h : M D} (i : Nat) (tb : List (Nat × Nat)) (he : PE X e (tE G W OX O O1 h)) (ht : ∀ c j, tb.lookup c = some j → ClsOk G c ∧ (G.lay c)[j]? = some f) (hO : i ∈ O1 := by decide) (hK : X.K = G.K := by rfl) (hN : X.N[i]? = some x := by rfl) (hv : Vis X.env.scope x := by first | exact Or.inl rfl | exact Or.inr (Or.inl rfl) | exact Or.inr (Or.inr rfl))
    (hd : (x == ("__debug__" : Str)) = false := by decide) (hcd : (x == ("__classdict__" : Str)) = false := by decide) (hs : swapsWith e (some (.Attribute (.Name x px) f pos')) pos.line X.env = pure false := by rfl) : PS X (.Assign [.Attribute (.Name x px) f pos'] e pos) (tS G W OX OL O O1 (sFl i tb h)) :=
  (ps_fld (pe_var hN hv hd hcd) he hs).imp fun Dn σ H ⟨F, r, S, p⟩ => tS_bind S p fun d y F1 H1 r1 n1 rd p => by
    obtain ⟨d0, v0, e1, e2, o⟩ := n1.sta.ow i hO
    refine ⟨v0, e2, ?_⟩
    rw [e1] at p
    cases o with
    | @ob c l a dx xs hh hf hl rr =>
      revert p
      simp only
      cases e3 : tb.lookup c with
      | none => exact fun p => p.elim
      | some j =>
        obtain ⟨co, hj⟩ := ht c j e3
        intro p
        have p : PstS G W OX OL O1 O1 σ F1 H1 Dn (if j = l.length then .ok .nx (r1.set i (some (.ob c (l ++ [d])))) else .no) := p
        split at p
        · rename_i hl2
          rw [hl2, rr.length] at hj
          have hlt : xs.length < (G.lay c).length := (List.getElem?_eq_some_iff.mp hj).1
          have few := co.few
          have z := putF_zip (y := y) co.nd hj
          rw [hK]
          refine ⟨a, _, dx, _, rfl, hh, co.cl, co.na f (List.mem_of_getElem? hj), by simp; omega, ?_⟩
          rw [z]
          have ho : Own G F1 (upd H1 a (.ins (G.cA c) dx ((G.lay c).zip (xs ++ [y])))) (.ob c (l ++ [d])) (.ref a) := by
            refine .ob upd_same ?_ (by simp; omega) (rr.app (.cons rd .nil))
            rcases hf with hf | ⟨hi, n, hf⟩
            · exact .inl hf
            · refine .inr ⟨hi, min n xs.length, ?_⟩
              rw [hf]
              congr 3
              rw [List.take_append_of_le_length (Nat.min_le_right _ _), ← List.take_eq_take_min]
          refine p _ _ _ (n1.sta.wr hO e2 ho (fun b u eb => ?_) fun b C d2 fs g eb hg => ?_)
          · by_cases q : b = a
            · subst q
              refine ⟨_, upd_same, ?_⟩
              rcases hf with hf | ⟨hi, n, hf⟩
              · rw [hf] at eb
                cases eb
              · rw [hf] at eb
                cases eb
                obtain ⟨more, em⟩ := zip_pre (G.lay c) (xs ++ [y]) (min n xs.length)
                refine .inr ⟨_, _, _, more, rfl, ?_⟩
                rw [em, List.take_append_of_le_length (Nat.min_le_right _ _), ← List.take_eq_take_min]
            · obtain ⟨o2, e4, gr⟩ := n1.sta.sub b u eb
              exact ⟨o2, by rw [upd_ne q]; exact e4, gr⟩
          · by_cases q : b = a
            · subst q
              rw [upd_same] at eb
              cases eb
              exact co.sub _ (lookup_zip hg)
            · rw [upd_ne q] at eb
              exact n1.sta.wf b C d2 fs g eb hg
        · exact p.elim
    | lst => exact p.elim
    | dic => exact p.elim
end
end Z

/-! The text's own operators. -/
namespace Z
open PySem PySem.Spec PyProof.Rows L2

/-- the right value's kind is one of these -/
def rk (ts : List String) (cs : List Nat) (y : D) : Bool := match y with
  | .ob c _ => cs.contains c
  | y => match tyN y with
    | some m => ts.contains m
    | none => false
/-- x op y by the left one's class; else a plain operation -/
def oW (tb : List (Nat × Beh)) (ts : List String) (cs : List Nat) (p : D → D → Option D) (x y : D) (r : Ev) : Out D := match x with
  | .ob c l => if rk ts cs y then (match tb.lookup c with
    | some B => out0 (B [.ob c l, y]) r
    | none => .no) else .no
  | _ => liftO (p x y) r
def negO : Out D → Out D
  | .ok (.bl b) r => .ok (.bl (!b)) r
  | .ex e r => .ex e r
  | _ => .no
/-- x != y by the left one's == -/
def oNW (tb : List (Nat × Beh)) (ts : List String) (cs : List Nat) (p : D → D → Option D) (x y : D) (r : Ev) : Out D := match x with
  | .ob c l => if rk ts cs y then (match tb.lookup c with
    | some B => negO (out0 (B [.ob c l, y]) r)
    | none => .no) else .no
  | _ => liftO (p x y) r

section
variable {prog : Program} {w : World} {M : Model} {A : Around} {E : Value → Shared → Prop} {s : Shared} {K : PySem.W.Frag} {x C C2 L f g : Addr} {h₀ : Heap} {m : Str → Option Value} {ox : Obj} {od : Option Obj} {nm : String}
open PySem.W in
/-- x op b, b an instance of another class that has the operator too -/
theorem bin_two {op : Operator} {b : Value} {rc rc2 : Option Value} {Q : Value → Shared → Prop} (F : Fr h₀ L s.heap m) (X₀ : K.In h₀) (I : InstAt s.heap x ox C od) (hb : Looks (model prog w) s.heap (typeOf b) (.ref C2)) (hne : C ≠ C2) (hc : selfFirst K C = true) (hc2 : selfFirst K C2 = true)
    (hs : findIn K (.ref C) (PySem.dunder op.info.2) = some (some (.ref f))) (hf : isFn K (.ref f) = true) (hr : findIn K (.ref C) (dunderR op.info.2) = some rc) (hp : rc = none ∨ ∃ g : Addr, rc = some (.ref g))
    (hs2 : findIn K (.ref C2) (PySem.dunder op.info.2) = some (some (.ref g))) (hr2 : findIn K (.ref C2) (dunderR op.info.2) = some rc2) (hp2 : rc2 = none ∨ ∃ g : Addr, rc2 = some (.ref g)) (hsub : subIn K (.ref C2) (.ref C) = some false)
    (h : wpAny (model prog w) A (call (.ref f) [.ref x, b]) (PySem.W.CmpBack Q) E s) : wpAny (model prog w) A (binaryOp op (.ref x) b) Q E s := by
  have X := X₀.keeps F.keep
  obtain ⟨cd, rest, hcd, hm⟩ := ksp_first hc
  obtain ⟨cd2, rest2, hcd2, hm2⟩ := ksp_first hc2
  rcases hi : op.info with ⟨sym, nm'⟩
  rw [hi] at hs hr hs2 hr2
  dsimp only at hs hr hs2 hr2
  have one := ksp_try X I hs hf h
  obtain ⟨hh, g', d, tt, os⟩ := s
  have L1 : Looks (model prog w) hh (typeOf (.ref x)) (.ref C) := I.type
  have L2 : Looks (model prog w) hh (typeOf b) (.ref C2) := hb
  have L3 : Looks (model prog w) hh (fillsNumberSlot (.ref C) nm') true := fills_K X hcd hm hs
  have L4 : Looks (model prog w) hh (fillsNumberSlot (.ref C2) nm') true := fills_K X hcd2 hm2 hs2
  have L5 : Looks (model prog w) hh (isSubtype (.ref C2) (.ref C)) false := looks_subIn X hsub
  have L6 : Looks (model prog w) hh (numberSlotInPython (.ref C) nm') true := ksp_inPy X hs hr hp
  have L7 : Looks (model prog w) hh (numberSlotInPython (.ref C2) nm') true := ksp_inPy X hs2 hr2 hp2
  have hne' : (Value.ref C == Value.ref C2) = false := Bool.eq_false_iff.mpr fun q => hne (by cases beq_iff_eq.mp q; rfl)
  simp only [binaryOp, hi]
  refine wpAny_holding (wpAny_bind ?_)
  unfold binaryOp1
  refine wpAny_bind (L1.at (wpAny_bind (L2.at (wpAny_bind (L3.at ?_)))))
  simp only [hne', Bool.false_eq_true, if_false]
  ksp_lk
  refine wpAny_mono one (fun r s' hr' => ?_) fun _ _ e => e
  obtain ⟨v, rfl, hq⟩ := hr'
  ksp_lk
  exact hq
open PySem.W in
theorem if_bound_ne {args : List Value} {Q : Option Value → Shared → Prop} (X : K.In s.heap) (I : InstAt s.heap x ox C od) (hs : findIn K (.ref C) "__ne__" = some (some (.builtin "object.__ne__")))
    (h : wpAny M A (call (.builtin "object.__ne__") (.ref x :: args)) (fun v => Q (some v)) E s) : wpAny M A (callSpecialIfBound? (.ref x) "__ne__" args) Q E s := by
  simp only [callSpecialIfBound?, bindSpecialIfBound?]
  refine wpAny_holding (wpAny_bind (wpAny_bind (wpAny_bind (I.type.here ((looks_findIn X hs).here ?_)))))
  have fin : wpAny M A (call (.builtin "object.__ne__") ([.ref x] ++ args) >>= fun v => pure (some v)) Q E s := wpAny_bind (wpAny_mono h (fun v s1 z => wpAny_pure z) fun _ _ z => z)
  refine wpAny_bind (wpAny_askSetting (wpAny_ite ?_))
  split
  · exact wpAny_bind (wpAny_of_eq (F.cmp_object.ne.bind _) (wpAny_pure (by exact fin)))
  · exact wpAny_tryCatch (wpAny_bind (wpAny_of_eq (F.cmp_object.ne.bind _) (wpAny_pure (by exact fin))))
open PySem.W in
/-- x != b by __eq__ -/
theorem ne_own {b tb : Value} {Q : Value → Shared → Prop} (hu : A.units + 1 < cLine) (Fq : Fr h₀ L s.heap m) (X₀ : K.In h₀) (I : InstAt s.heap x ox C od) (hb : Looks (model prog w) s.heap (typeOf b) tb) (hn : notFirst K C tb = true) (hm : mroIn K C (.type "object") = some true)
    (hne : findIn K (.ref C) "__ne__" = some (some (.builtin "object.__ne__"))) (hs : findIn K (.ref C) "__eq__" = some (some (.ref f))) (hf : isFn K (.ref f) = true)
    (h : wpAny (model prog w) A.in1 (call (.ref f) [.ref x, b]) (fun v s' => ∃ z, v = .bool z ∧ Q (.bool (!z)) s') E s) : wpAny (model prog w) A (richCompare .NotEq (.ref x) b) Q E s := by
  have X := X₀.keeps Fq.keep
  have back : wpAny (model prog w) A.in1 (callSpecialIfBound? (.ref x) "__eq__" [b]) (fun r s' => ∃ z, r = some (.bool z) ∧ Q (.bool (!z)) s') E s :=
    ifBound_K (args := [b]) X I hs hf (wpAny_mono h (fun v s' ⟨z, e, q⟩ => ⟨z, by rw [e], q⟩) fun _ _ e => e)
  have entry : wpAny (model prog w) A.in1 (Builtin.«object.__ne__» ⟨[.ref x, b], []⟩) (GQ.FinOf prog w A ((fun (Q : Value → Shared → Prop) (E : Value → Shared → Prop) (r : Result) (s' : Shared) => match r with | .ok (.ret v) => Q v s' | .ok _ => False | .error e => E e s') (fun v s' => v ≠ .notImplemented ∧ Q v s') E)) (fun e s' => (fun (Q : Value → Shared → Prop) (E : Value → Shared → Prop) (r : Result) (s' : Shared) => match r with | .ok (.ret v) => Q v s' | .ok _ => False | .error e => E e s') (fun v s' => v ≠ .notImplemented ∧ Q v s') E (.error e) s') s := by
    have fin : ∀ (z : Bool) (s' : Shared), Q (.bool (!z)) s' → GQ.FinOf prog w A ((fun (Q : Value → Shared → Prop) (E : Value → Shared → Prop) (r : Result) (s' : Shared) => match r with | .ok (.ret v) => Q v s' | .ok _ => False | .error e => E e s') (fun v s' => v ≠ .notImplemented ∧ Q v s') E) (.done (.ret (.bool (!z)))) s' := fun z s' q => ⟨(fun y => nomatch y), q⟩
    generalize GQ.FinOf prog w A ((fun (Q : Value → Shared → Prop) (E : Value → Shared → Prop) (r : Result) (s' : Shared) => match r with | .ok (.ret v) => Q v s' | .ok _ => False | .error e => E e s') (fun v s' => v ≠ .notImplemented ∧ Q v s') E) = Rf at fin ⊢
    have back' : wpAny (model prog w) A.in1 (callSpecialIfBound? (.ref x) "__eq__" [b]) (fun r s' => ∃ z, r = some (.bool z) ∧ Q (.bool (!z)) s') (fun e s' => (fun (Q : Value → Shared → Prop) (E : Value → Shared → Prop) (r : Result) (s' : Shared) => match r with | .ok (.ret v) => Q v s' | .ok _ => False | .error e => E e s') (fun v s' => v ≠ .notImplemented ∧ Q v s') E (.error e) s') s := back
    generalize (fun e s' => (fun (Q : Value → Shared → Prop) (E : Value → Shared → Prop) (r : Result) (s' : Shared) => match r with | .ok (.ret v) => Q v s' | .ok _ => False | .error e => E e s') (fun v s' => v ≠ .notImplemented ∧ Q v s') E (.error e) s') = Ef at back' ⊢
    obtain ⟨hh, g', d, tt, os⟩ := s
    unfold Builtin.«object.__ne__»
    repeat (first
      | with_reducible refine wpAny_cRoomFor hu ?_
      | (refine wpAny_bind (m := callSpecialIfBound? (.ref x) (Str.ofString "__eq__") [b]) (wpAny_mono back' (fun r s' hr => by
          obtain ⟨z, rfl, hq⟩ := hr
          repeat (first | exact fin _ _ hq | exact wpAny_pure (fin _ _ hq) | exact wpAny_truthy_bool (fin _ _ hq) | (refine wpAny_bind (m := truthy (.bool _)) (wpAny_truthy_bool ?_)) | wp_step)) fun _ _ e => e))
      | wp_step)
  have called : wpAny (model prog w) A (call (.builtin "object.__ne__") [.ref x, b]) (fun v s' => v ≠ .notImplemented ∧ Q v s') E s :=
    wpAny_call (codeAny_call_builtin F.cmp_object.ne.plain F.cmpEntry_ne (PySem.W.check_slot F.cmpKind_ne F.cmpSplit_ne (I.type.andThen (PySem.W.looks_mroIn X hm)) (F.cmpArgs_ne _ _) entry))
  have one : wpAny (model prog w) A (tryCompare (.ref x) "__ne__" b) (fun r s' => ∃ v, r = some v ∧ Q v s') E s := by
    unfold tryCompare
    refine wpAny_bind (if_bound_ne X I hne (wpAny_mono called (fun v s' hv => ?_) fun _ _ e => e))
    obtain ⟨h1, h2⟩ := hv
    cases v <;> first | exact absurd rfl h1 | exact wpAny_pure ⟨_, rfl, h2⟩
  unfold richCompare
  simp only [oneThing_ref]
  refine wpAny_holding (wpAny_bind (wpAny_cRoomFor (Nat.lt_of_succ_lt hu) ?_))
  refine wpAny_bind (I.type.here (wpAny_bind (hb.here ?_)))
  split
  · rename_i q
    have e : subIn K tb (.ref C) = some false := by
      rcases Bool.or_eq_true_iff.mp hn with e | e
      · rw [beq_iff_eq.mp e] at q
        simp at q
      · exact beq_iff_eq.mp e
    refine wpAny_bind ((looks_subIn X e).here ?_)
    simp only [Bool.false_eq_true, if_false]
    refine wpAny_bind (wpAny_mono one (fun r s' z => ?_) fun _ _ e => e)
    obtain ⟨v, rfl, hq⟩ := z
    exact wpAny_pure hq
  · refine wpAny_bind (wpAny_pure ?_)
    simp only [Bool.false_eq_true, if_false]
    refine wpAny_bind (wpAny_mono one (fun r s' z => ?_) fun _ _ e => e)
    obtain ⟨v, rfl, hq⟩ := z
    exact wpAny_pure hq
end

def flat4 : List String := ["int", "bool", "str", "NoneType"]
/-- a class's own def for an operator of two values -/
structure OwnOk (G : Gm) (P : Program) (w : World) (mg : Str → Option Value) (base : Heap) (k : Nat) (dn : Str) (c : Nat) (B : Beh) (f : Addr) (fd : FuncData) (ps : List Str) (n : Nat) : Prop where
  at_ : PySem.W.findIn G.K (.ref (G.cA c)) dn = some (some (.ref f))
  isf : PySem.W.isFn G.K (.ref f) = true
  fn : FnB P w G mg base k f fd ps n [] B
  bd : Binds G.K fd ps []
  ar : ∀ ds, ds.length ≠ n → B ds = .no
/-- what else the binary operators ask -/
structure BinOk (G : Gm) (dn dr : Str) (ts : List String) (cs : List Nat) (c : Nat) : Prop where
  sf : PySem.W.selfFirst G.K (G.cA c) = true
  rc : ∃ rc, PySem.W.findIn G.K (.ref (G.cA c)) dr = some rc ∧ (rc = none ∨ ∃ g : Addr, rc = some (.ref g))
  ty : ∀ T ∈ ts, T ∈ flat4 ∧ (∃ fo ro, PySem.W.findIn G.K (.type T) dn = some fo ∧ PySem.W.findIn G.K (.type T) dr = some ro) ∧ PySem.W.subIn G.K (.type T) (.ref (G.cA c)) = some false
  ot : ∀ d ∈ cs, d = c ∨ (G.cA c ≠ G.cA d ∧ PySem.W.selfFirst G.K (G.cA d) = true ∧ (∃ g : Addr, PySem.W.findIn G.K (.ref (G.cA d)) dn = some (some (.ref g))) ∧ (∃ rc, PySem.W.findIn G.K (.ref (G.cA d)) dr = some rc ∧ (rc = none ∨ ∃ g : Addr, rc = some (.ref g))) ∧
    PySem.W.subIn G.K (.ref (G.cA d)) (.ref (G.cA c)) = some false)
/-- .. the comparisons -/
structure CmpOk (G : Gm) (ts : List String) (cs : List Nat) (c : Nat) : Prop where
  ty : ∀ T ∈ ts, T ∈ flat4 ∧ PySem.W.notFirst G.K (G.cA c) (.type T) = true
  ot : ∀ d ∈ cs, PySem.W.notFirst G.K (G.cA c) (.ref (G.cA d)) = true
section
variable {G : Gm} {X : Cx} {W : WX} {OX OL vs O O1 O2 O3 : List Nat}
theorem run_At {A : Around} {k : Nat} {f : Addr} {fd : FuncData} {ps : List Str} {n : Nat} {B : Beh} {pins : List (Addr × Obj)} {σ : L2.St} {H : Hp} {s : Shared} {Q : VK} {us : List Value} {vs : List V} (sb : L2.Sub X k A) (tk : Takes X W) (Fk : FnOk X.prog X.w X.K X.mg X.base (L2.CX X.prog X.w) k f fd ps (spB G n [] B))
    (hb : Binds X.K fd ps []) (I : Inv X pins σ H s) (r : Vals vs us) (h : spB G n [] B vs H Q (fun c dx H' => W c dx σ H')) : wpAny (model X.prog X.w) A (call (.ref f) us) (EP X pins σ Q) X.xe s := by
  have hl := Fk.len _ _ _ _ h
  have e0 : Env0 X.prog X.w X.K X.mg X.base A X.stack s H := by
    have e := I.env0
    exact ⟨by rw [sb.fr]; exact e.frames, e.mod, e.bs, e.bsz, e.funs, e.frf, e.hok, e.bare⟩
  have bt := hb s us I.kIn (by rw [List.append_nil, ← r.length, hl])
  rw [List.append_nil] at bt
  refine wpAny_call (codeAny_mono (Fk.run A X.stack s H ⟨us, []⟩ us vs Q _ sb.room e0 bt r h) fun res s' back => ?_)
  match res, back with
  | .error er, back => exact passAt tk σ pins H s er s' I back
  | .ok (.ret u), back => exact I.after back
  | .ok .next, back => exact back.elim
  | .ok .brk, back => exact back.elim
  | .ok .cont, back => exact back.elim
theorem rk_ty {ts : List String} {cs : List Nat} {y : D} {v : V} {u : Value} {F : Hp} (hts : ∀ T ∈ ts, T ∈ flat4) (h : rk ts cs y = true) (ry : Rep G F y v) (ru : RelV v u) : (∃ T, T ∈ ts ∧ typeOf u = pure (.type T)) ∨ ∃ d l, y = .ob d l ∧ d ∈ cs := by
  cases ry with
  | non => cases ru; exact .inl ⟨"NoneType", by simpa [rk, tyN] using h, rfl⟩
  | bl => cases ru; exact .inl ⟨"bool", by simpa [rk, tyN] using h, rfl⟩
  | int => obtain ⟨t, rfl⟩ := ru; exact .inl ⟨"int", by simpa [rk, tyN] using h, rfl⟩
  | str => obtain ⟨t, rfl⟩ := ru; exact .inl ⟨"str", by simpa [rk, tyN] using h, rfl⟩
  | tup => exact absurd (hts "tuple" (by simpa [rk, tyN] using h)) (by decide)
  | lst => exact absurd (hts "list" (by simpa [rk, tyN] using h)) (by decide)
  | kl => exact absurd (hts "list" (by simpa [rk, tyN] using h)) (by decide)
  | dic => exact absurd (hts "dict" (by simpa [rk, tyN] using h)) (by decide)
  | @ob d l => exact .inr ⟨d, l, rfl, by simpa [rk] using h⟩
/-- the instance at hand -/
theorem inst_at {σ : L2.St} {F H : Hp} {r : Ev} {c : Nat} {l : List D} {v : V} {pins : List (Addr × Obj)} {s : Shared} (I : Inv X pins σ H s) (S : Sta G O F H σ r) (h : Rep G F (.ob c l) v) : ∃ a, v = .ref a ∧ ∃ ox od, PySem.W.InstAt s.heap a ox (G.cA c) (some od) := by
  cases h with
  | @ob _ _ a dx xs more h hl rr =>
    obtain ⟨o', e', gr⟩ := S.sub _ _ h
    obtain ⟨q, eo⟩ := gr.ins
    subst eo
    obtain ⟨mA, J, _⟩ := ins_get I.hok e'
    obtain ⟨od, J, _⟩ := J.look
    exact ⟨a, rfl, _, od, J⟩
theorem o_bin {op : Operator} {p : D → D → Option D} {k : Nat} (tb : List (Nat × Beh)) (ts : List String) (cs : List Nat) (tk : Takes X W) (hr : Room k X.A) (hp : Op2 G X W OX O (binaryOp op) (oP p))
    (ht : ∀ c B, tb.lookup c = some B → (∃ f fd ps, OwnOk G X.prog X.w X.mg X.base k (PySem.dunder op.info.2) c B f fd ps 2) ∧ BinOk G (PySem.dunder op.info.2) (dunderR op.info.2) ts cs c) (hx : ∀ i ∈ OX, i ∈ O := by decide) (hK : X.K = G.K := by rfl) : Op2 G X W OX O (binaryOp op) (oW tb ts cs p) :=
  fun pins s σ F H r x y v w u u' Q I S rx ry ru ru' q => by
    cases x with
    | ob c l =>
      unfold oW at q
      simp only at q
      split at q
      case isFalse => exact q.elim
      rename_i hk
      revert q
      cases e1 : tb.lookup c with
      | none => exact fun q => q.elim
      | some B =>
        intro q
        have q : Pst G W OX O O σ F H (RD G) Q (out0 (B [.ob c l, y]) r) := q
        obtain ⟨⟨f, fd, ps, ow⟩, bk⟩ := ht c B e1
        obtain ⟨a, rfl, ox, od, J⟩ := inst_at I S rx
        obtain rfl : u = Value.ref a := ru
        obtain ⟨m, hF⟩ := I.fr
        have Fk : FnOk X.prog X.w X.K X.mg X.base (L2.CX X.prog X.w) k f fd ps (spB G 2 [] B) := by rw [hK]; exact ow.fn
        have rr : RepL G F [.ob c l, y] [.ref a, w] := .cons rx (.cons ry .nil)
        have go : wpAny (model X.prog X.w) X.A (call (.ref f) [.ref a, u']) (PySem.W.CmpBack (EP X pins σ Q)) X.xe s := by
          refine wpAny_mono (run_At (us := [.ref a, u']) (vs := [.ref a, w]) ⟨hr, rfl⟩ tk Fk (by rw [hK]; exact ow.bd) I (.cons rfl (.cons ru' .nil)) (spB_of hx S rr (len_of ow.ar rr q) q)) (fun z s' h => ?_) fun _ _ h => h
          obtain ⟨z', H', I', rz, qz⟩ := h
          exact SlX.cmpback rz ⟨z', H', I', rz, qz⟩
        obtain ⟨rc, h1, h2⟩ := bk.rc
        rcases rk_ty (fun T hT => (bk.ty T hT).1) hk ry ru' with ⟨T, hT, ht⟩ | ⟨d, l2, rfl, hd⟩
        · obtain ⟨_, ⟨fo, ro, h3, h4⟩, h5⟩ := bk.ty T hT
          exact PySem.W.ksp_binT (K := X.K) (C := G.cA c) hF I.ok.mod.kin J ht (by rw [hK]; exact bk.sf) (by rw [hK]; exact ow.at_) (by rw [hK]; exact ow.isf) (by rw [hK]; exact h1) h2 (by rw [hK]; exact h3) (by rw [hK]; exact h4) (by rw [hK]; exact h5) go
        · obtain ⟨b, rfl, ox2, od2, J2⟩ := inst_at I S ry
          obtain rfl : u' = Value.ref b := ru'
          rcases bk.ot d hd with rfl | ⟨hne, h3, ⟨g, h4⟩, ⟨rc2, h5, h6⟩, h7⟩
          · exact PySem.W.binop_K (K := X.K) (C := G.cA d) hF I.ok.mod.kin J J2.type (by rw [hK]; exact bk.sf) (by rw [hK]; exact ow.at_) (by rw [hK]; exact ow.isf) go
          · exact bin_two (K := X.K) (C := G.cA c) hF I.ok.mod.kin J J2.type hne (by rw [hK]; exact bk.sf) (by rw [hK]; exact h3) (by rw [hK]; exact ow.at_) (by rw [hK]; exact ow.isf) (by rw [hK]; exact h1) h2 (by rw [hK]; exact h4) (by rw [hK]; exact h5) h6 (by rw [hK]; exact h7) go
    | non => exact hp pins s σ F H r _ y v w u u' Q I S rx ry ru ru' q
    | bl b => exact hp pins s σ F H r _ y v w u u' Q I S rx ry ru ru' q
    | int b => exact hp pins s σ F H r _ y v w u u' Q I S rx ry ru ru' q
    | str b => exact hp pins s σ F H r _ y v w u u' Q I S rx ry ru ru' q
    | tup b => exact hp pins s σ F H r _ y v w u u' Q I S rx ry ru ru' q
    | lst b => exact hp pins s σ F H r _ y v w u u' Q I S rx ry ru ru' q
    | kl b => exact hp pins s σ F H r _ y v w u u' Q I S rx ry ru ru' q
    | dic b b' => exact hp pins s σ F H r _ y v w u u' Q I S rx ry ru ru' q
    | xo c l => cases rx
/-- -x -/
theorem o_negW {p : D → Option D} {k : Nat} (tb : List (Nat × Beh)) (tk : Takes X W) (hr : Room k X.A) (hp : Op1 G X W OX O (unaryOp .USub) (oU p))
    (ht : ∀ c B, tb.lookup c = some B → ∃ f fd ps, OwnOk G X.prog X.w X.mg X.base k "__neg__" c B f fd ps 1) (hx : ∀ i ∈ OX, i ∈ O := by decide) (hK : X.K = G.K := by rfl) : Op1 G X W OX O (unaryOp .USub) (oC1 tb p) :=
  fun pins s σ F H r x v u Q I S rx ru q => by
    cases x with
    | ob c l =>
      rw [oC1_ob] at q
      revert q
      cases e1 : tb.lookup c with
      | none => exact fun q => q.elim
      | some B =>
        intro q
        have q : Pst G W OX O O σ F H (RD G) Q (out0 (B [.ob c l]) r) := q
        obtain ⟨f, fd, ps, ow⟩ := ht c B e1
        obtain ⟨a, rfl, ox, od, J⟩ := inst_at I S rx
        obtain rfl : u = Value.ref a := ru
        obtain ⟨m, hF⟩ := I.fr
        have Fk : FnOk X.prog X.w X.K X.mg X.base (L2.CX X.prog X.w) k f fd ps (spB G 1 [] B) := by rw [hK]; exact ow.fn
        have rr : RepL G F [.ob c l] [.ref a] := .cons rx .nil
        exact PySem.W.ksp_neg (K := X.K) (C := G.cA c) hF I.ok.mod.kin J (by rw [hK]; exact ow.at_) (by rw [hK]; exact ow.isf) (run_At (us := [.ref a]) (vs := [.ref a]) ⟨hr, rfl⟩ tk Fk (by rw [hK]; exact ow.bd) I (.cons rfl .nil) (spB_of hx S rr (len_of ow.ar rr q) q))
    | non => exact hp pins s σ F H r _ v u Q I S rx ru q
    | bl b => exact hp pins s σ F H r _ v u Q I S rx ru q
    | int b => exact hp pins s σ F H r _ v u Q I S rx ru q
    | str b => exact hp pins s σ F H r _ v u Q I S rx ru q
    | tup b => exact hp pins s σ F H r _ v u Q I S rx ru q
    | lst b => exact hp pins s σ F H r _ v u Q I S rx ru q
    | kl b => exact hp pins s σ F H r _ v u Q I S rx ru q
    | dic b b' => exact hp pins s σ F H r _ v u Q I S rx ru q
    | xo c l => cases rx
/-- x op y by the left one's class, anywhere below this body -/
theorem cmp_at {A : Around} {op : CmpOp} {k : Nat} {dn : Str} {ts : List String} {cs : List Nat} {c : Nat} {l : List D} {y : D} {B : Beh} {f : Addr} {fd : FuncData} {ps : List Str} {pins : List (Addr × Obj)} {s : Shared} {σ : L2.St} {F H : Hp} {r : Ev} {v w : V} {u u' : Value} {Q : VK}
    (sb : L2.Sub X k A) (tk : Takes X W) (hdn : (cmpInfo op).2.1 = dn) (ow : OwnOk G X.prog X.w X.mg X.base k dn c B f fd ps 2) (ck : CmpOk G ts cs c) (hk : rk ts cs y = true) (hx : ∀ i ∈ OX, i ∈ O) (hK : X.K = G.K) (I : Inv X pins σ H s) (S : Sta G O F H σ r) (rx : Rep G F (.ob c l) v) (ry : Rep G F y w) (ru : RelV v u) (ru' : RelV w u')
    (q : Pst G W OX O O σ F H (RD G) Q (out0 (B [.ob c l, y]) r)) : wpAny (model X.prog X.w) A (richCompare op u u') (EP X pins σ Q) X.xe s := by
  subst hdn
  obtain ⟨a, rfl, ox, od, J⟩ := inst_at I S rx
  obtain rfl : u = Value.ref a := ru
  obtain ⟨m, hF⟩ := I.fr
  have Fk : FnOk X.prog X.w X.K X.mg X.base (L2.CX X.prog X.w) k f fd ps (spB G 2 [] B) := by rw [hK]; exact ow.fn
  have rr : RepL G F [.ob c l, y] [.ref a, w] := .cons rx (.cons ry .nil)
  have go : wpAny (model X.prog X.w) A (call (.ref f) [.ref a, u']) (PySem.W.CmpBack (EP X pins σ Q)) X.xe s := by
    refine wpAny_mono (run_At (us := [.ref a, u']) (vs := [.ref a, w]) sb tk Fk (by rw [hK]; exact ow.bd) I (.cons rfl (.cons ru' .nil)) (spB_of hx S rr (len_of ow.ar rr q) q)) (fun z s' h => ?_) fun _ _ h => h
    obtain ⟨z', H', I', rz, qz⟩ := h
    exact SlX.cmpback rz ⟨z', H', I', rz, qz⟩
  have fin : ∀ tbv, PySem.W.Looks (model X.prog X.w) s.heap (typeOf u') tbv → PySem.W.notFirst G.K (G.cA c) tbv = true → wpAny (model X.prog X.w) A (richCompare op (.ref a) u') (EP X pins σ Q) X.xe s := fun tbv hl hn =>
    PySem.W.cmp_K (K := X.K) (C := G.cA c) (op := op) (tb := tbv) sb.room.units0 hF I.ok.mod.kin J hl (by rw [hK]; exact hn) (by rw [hK]; exact ow.at_) (by rw [hK]; exact ow.isf) go
  rcases rk_ty (fun T hT => (ck.ty T hT).1) hk ry ru' with ⟨T, hT, ht⟩ | ⟨d, l2, rfl, hd⟩
  · exact fin _ (PySem.W.Looks.of_pure ht) (ck.ty T hT).2
  · obtain ⟨b, rfl, ox2, od2, J2⟩ := inst_at I S ry
    obtain rfl : u' = Value.ref b := ru'
    exact fin _ J2.type (ck.ot d hd)
theorem o_cmp {op : CmpOp} {p : D → D → Option D} {k : Nat} (tb : List (Nat × Beh)) (ts : List String) (cs : List Nat) (tk : Takes X W) (hr : Room k X.A) (hp : Op2 G X W OX O (compareOp op) (oP p)) (hop : ∀ a b, compareOp op a b = richCompare op a b := by intros; rfl)
    (ht : ∀ c B, tb.lookup c = some B → (∃ f fd ps, OwnOk G X.prog X.w X.mg X.base k (cmpInfo op).2.1 c B f fd ps 2) ∧ CmpOk G ts cs c) (hx : ∀ i ∈ OX, i ∈ O := by decide) (hK : X.K = G.K := by rfl) : Op2 G X W OX O (compareOp op) (oW tb ts cs p) :=
  fun pins s σ F H r x y v w u u' Q I S rx ry ru ru' q => by
    cases x with
    | ob c l =>
      unfold oW at q
      simp only at q
      split at q
      case isFalse => exact q.elim
      rename_i hk
      revert q
      cases e1 : tb.lookup c with
      | none => exact fun q => q.elim
      | some B =>
        intro q
        obtain ⟨⟨f, fd, ps, ow⟩, ck⟩ := ht c B e1
        rw [hop]
        exact cmp_at ⟨hr, rfl⟩ tk rfl ow ck hk hx hK I S rx ry ru ru' q
    | non => exact hp pins s σ F H r _ y v w u u' Q I S rx ry ru ru' q
    | bl b => exact hp pins s σ F H r _ y v w u u' Q I S rx ry ru ru' q
    | int b => exact hp pins s σ F H r _ y v w u u' Q I S rx ry ru ru' q
    | str b => exact hp pins s σ F H r _ y v w u u' Q I S rx ry ru ru' q
    | tup b => exact hp pins s σ F H r _ y v w u u' Q I S rx ry ru ru' q
    | lst b => exact hp pins s σ F H r _ y v w u u' Q I S rx ry ru ru' q
    | kl b => exact hp pins s σ F H r _ y v w u u' Q I S rx ry ru ru' q
    | dic b b' => exact hp pins s σ F H r _ y v w u u' Q I S rx ry ru ru' q
    | xo c l => cases rx
/-- x != y by __eq__ -/
structure NeOk (G : Gm) (c : Nat) : Prop where
  ne : PySem.W.findIn G.K (.ref (G.cA c)) "__ne__" = some (some (.builtin "object.__ne__"))
  mo : PySem.W.mroIn G.K (G.cA c) (.type "object") = some true
theorem o_neW {p : D → D → Option D} {k : Nat} (tb : List (Nat × Beh)) (ts : List String) (cs : List Nat) (tk : Takes X W) (hr : Room (k + 1) X.A) (hp : Op2 G X W OX O (compareOp .NotEq) (oP p))
    (ht : ∀ c B, tb.lookup c = some B → (∃ f fd ps, OwnOk G X.prog X.w X.mg X.base k "__eq__" c B f fd ps 2) ∧ CmpOk G ts cs c ∧ NeOk G c) (hx : ∀ i ∈ OX, i ∈ O := by decide) (hK : X.K = G.K := by rfl) : Op2 G X W OX O (compareOp .NotEq) (oNW tb ts cs p) :=
  fun pins s σ F H r x y v w u u' Q I S rx ry ru ru' q => by
    cases x with
    | ob c l =>
      unfold oNW at q
      simp only at q
      split at q
      case isFalse => exact q.elim
      rename_i hk
      revert q
      cases e1 : tb.lookup c with
      | none => exact fun q => q.elim
      | some B =>
        intro q
        have q : Pst G W OX O O σ F H (RD G) Q (negO (out0 (B [.ob c l, y]) r)) := q
        obtain ⟨⟨f, fd, ps, ow⟩, ck, nk⟩ := ht c B e1
        obtain ⟨a, rfl, ox, od, J⟩ := inst_at I S rx
        obtain rfl : u = Value.ref a := ru
        obtain ⟨m, hF⟩ := I.fr
        have Fk : FnOk X.prog X.w X.K X.mg X.base (L2.CX X.prog X.w) k f fd ps (spB G 2 [] B) := by rw [hK]; exact ow.fn
        have rr : RepL G F [.ob c l, y] [.ref a, w] := .cons rx (.cons ry .nil)
        have q2 : Pst G W OX O O σ F H (RD G) (fun v' H' => ∃ b, v' = .bl b ∧ Q (.bl (!b)) H') (out0 (B [.ob c l, y]) r) := by
          revert q
          cases out0 (B [.ob c l, y]) r with
          | no => exact fun q => q
          | ex e r' => exact fun q => q
          | ok d r' =>
            cases d with
            | bl b =>
              intro q v' F' H' n rv
              cases rv
              exact ⟨b, rfl, q _ F' H' n .bl⟩
            | _ => exact fun q => q.elim
        have sb1 : L2.Sub X k X.A.in1 := L2.Sub.in1 ⟨hr, rfl⟩
        have go : wpAny (model X.prog X.w) X.A.in1 (call (.ref f) [.ref a, u']) (fun z s' => ∃ b, z = .bool b ∧ EP X pins σ Q (.bool (!b)) s') X.xe s := by
          refine wpAny_mono (run_At (us := [.ref a, u']) (vs := [.ref a, w]) sb1 tk Fk (by rw [hK]; exact ow.bd) I (.cons rfl (.cons ru' .nil)) (spB_of hx S rr (len_of ow.ar rr q2) q2)) (fun z s' h => ?_) fun _ _ h => h
          obtain ⟨z', H', I', rz, b, eb, qz⟩ := h
          subst eb
          cases (show z = Value.bool b from rz)
          exact ⟨b, rfl, .bl (!b), H', I', rfl, qz⟩
        have fin : ∀ tbv, PySem.W.Looks (model X.prog X.w) s.heap (typeOf u') tbv → PySem.W.notFirst G.K (G.cA c) tbv = true → wpAny (model X.prog X.w) X.A (compareOp .NotEq (.ref a) u') (EP X pins σ Q) X.xe s := fun tbv hl hn =>
          ne_own (K := X.K) (C := G.cA c) (tb := tbv) (by have := hr.un; omega) hF I.ok.mod.kin J hl (by rw [hK]; exact hn) (by rw [hK]; exact nk.mo) (by rw [hK]; exact nk.ne) (by rw [hK]; exact ow.at_) (by rw [hK]; exact ow.isf) go
        rcases rk_ty (fun T hT => (ck.ty T hT).1) hk ry ru' with ⟨T, hT, ht⟩ | ⟨d, l2, rfl, hd⟩
        · exact fin _ (PySem.W.Looks.of_pure ht) (ck.ty T hT).2
        · obtain ⟨b, rfl, ox2, od2, J2⟩ := inst_at I S ry
          obtain rfl : u' = Value.ref b := ru'
          exact fin _ J2.type (ck.ot d hd)
    | non => exact hp pins s σ F H r _ y v w u u' Q I S rx ry ru ru' q
    | bl b => exact hp pins s σ F H r _ y v w u u' Q I S rx ry ru ru' q
    | int b => exact hp pins s σ F H r _ y v w u u' Q I S rx ry ru ru' q
    | str b => exact hp pins s σ F H r _ y v w u u' Q I S rx ry ru ru' q
    | tup b => exact hp pins s σ F H r _ y v w u u' Q I S rx ry ru ru' q
    | lst b => exact hp pins s σ F H r _ y v w u u' Q I S rx ry ru ru' q
    | kl b => exact hp pins s σ F H r _ y v w u u' Q I S rx ry ru ru' q
    | dic b b' => exact hp pins s σ F H r _ y v w u u' Q I S rx ry ru ru' q
    | xo c l => cases rx
end
end Z

/-! == of tuples whose items have an own ==. -/
namespace Z
open PySem PySem.Spec PyProof.Rows L2

def isT : Out D → Bool
  | .ok (.bl true) _ => true
  | _ => false
def okB (o : Option Beh) (ds : List D) : Bool := match o with
  | some B => isT (B ds)
  | none => false
/-- the own == of two items -/
def eqI (tb : List (Nat × Beh)) (ts : List String) (cs : List Nat) (x y : D) : Bool := match x with
  | .ob c l => rk ts cs y && okB (tb.lookup c) [.ob c l, y]
  | _ => false
def allT (f : D → D → Bool) : List D → List D → Bool
  | [], [] => true
  | x :: l, y :: m => f x y && allT f l m
  | _, _ => false
def oET (tb : List (Nat × Beh)) (ts : List String) (cs : List Nat) (x y : D) (r : Ev) : Out D := match x, y with
  | .tup l, .tup m => (match pEq (.tup l) (.tup m) with
    | some d => .ok d r
    | none => if allT (eqI tb ts cs) l m then .ok (.bl true) r else .no)
  | x, y => oW tb ts cs pEq x y r
theorem allT_get {f : D → D → Bool} : ∀ {l m : List D}, allT f l m = true → l.length = m.length ∧ ∀ (i : Nat) (x y : D), l[i]? = some x → m[i]? = some y → f x y = true
  | [], [], _ => ⟨rfl, fun i x y e _ => by simp at e⟩
  | x :: l, y :: m, h => by
    rw [allT, Bool.and_eq_true] at h
    obtain ⟨h1, h2⟩ := allT_get h.2
    refine ⟨by rw [List.length_cons, List.length_cons, h1], fun i a b ea eb => ?_⟩
    cases i with
    | zero =>
      simp at ea eb
      subst ea eb
      exact h.1
    | succ i => exact h2 i a b (by simpa using ea) (by simpa using eb)
  | [], _ :: _, h => by cases h
  | _ :: _, [], h => by cases h
section
variable {G : Gm} {X : Cx} {W : WX} {OX OL vs O O1 O2 O3 : List Nat}
theorem o_eqT {k : Nat} (tb : List (Nat × Beh)) (ts : List String) (cs : List Nat) (tk : Takes X W) (hr : Room (k + 1) X.A)
    (ht : ∀ c B, tb.lookup c = some B → (∃ f fd ps, OwnOk G X.prog X.w X.mg X.base k "__eq__" c B f fd ps 2) ∧ CmpOk G ts cs c) (hx : ∀ i ∈ OX, i ∈ O := by decide) (hK : X.K = G.K := by rfl) : Op2 G X W OX O (compareOp .Eq) (oET tb ts cs) :=
  fun pins s σ F H r x y v w u u' Q I S rx ry ru ru' q => by
    have low : Op2 G X W OX O (compareOp .Eq) (oW tb ts cs pEq) := o_cmp tb ts cs tk (hr.mono (Nat.le_succ k)) (o_eq hr hK) (by intros; rfl) ht hx hK
    unfold oET at q
    split at q
    · rename_i l m
      split at q
      · rename_i d e
        exact low pins s σ F H r _ _ v w u u' Q I S rx ry ru ru' (by show Pst G W OX O O σ F H (RD G) Q (liftO (pEq (.tup l) (.tup m)) r); rw [e]; exact q)
      · split at q
        case isFalse => exact q.elim
        rename_i ha
        obtain ⟨hlen, hall⟩ := allT_get ha
        cases rx with
        | @tup _ a xs hq1 r1 =>
          cases ry with
          | @tup _ b ys hq2 r2 =>
            obtain rfl : u = Value.ref a := ru
            obtain rfl : u' = Value.ref b := ru'
            obtain ⟨its, rv, h1, _⟩ := I.tuple (by rw [hK]; exact S.sub.sqT hq1)
            obtain ⟨its2, rv2, h2, _⟩ := I.tuple (by rw [hK]; exact S.sub.sqT hq2)
            have n1 : its.length = l.length := by rw [← rv.length, r1.length]
            have n2 : its2.length = m.length := by rw [← rv2.length, r2.length]
            show wpAny (model X.prog X.w) X.A (richCompare .Eq (.ref a) (.ref b)) (EP X pins σ Q) X.xe s
            refine GQ.rc_tupG (items := its.toArray) (items2 := its2.toArray) (by simp; omega) hr.units0 (fun _ s' => ∃ F' H', Inv X pins σ H' s' ∧ Nx G OX O O σ F H σ F' H' r) h1 h2 (fun i hi1 hi2 s' hI => ?_) (fun s' hI => ?_) ⟨F, H, I, Nx.rfl' S⟩
            · obtain ⟨F', H', I', n⟩ := hI
              have hi1 : i < its.length := by simpa using hi1
              have hi2 : i < its2.length := by simpa using hi2
              have g1 : its.toArray[i]'(by simpa using hi1) = its[i] := by simp
              have g2 : its2.toArray[i]'(by simpa using hi2) = its2[i] := by simp
              rw [g1, g2]
              have el : l[i]? = some (l[i]'(by omega)) := List.getElem?_eq_getElem _
              have em : m[i]? = some (m[i]'(by omega)) := List.getElem?_eq_getElem _
              generalize l[i]'(by omega) = dx at el
              generalize m[i]'(by omega) = dy at em
              have hf := hall i dx dy el em
              obtain ⟨vx, ex, rx⟩ := r1.get el
              obtain ⟨vy, ey, ry⟩ := r2.get em
              obtain ⟨ux, eux, rux⟩ := L2.Vals.get rv ex
              obtain ⟨uy, euy, ruy⟩ := L2.Vals.get rv2 ey
              have q1 : its[i] = ux := by rw [List.getElem?_eq_getElem hi1] at eux; exact Option.some.inj eux
              have q2 : its2[i] = uy := by rw [List.getElem?_eq_getElem hi2] at euy; exact Option.some.inj euy
              rw [q1, q2]
              have rx := rx.mono n.stp.fz
              have ry := ry.mono n.stp.fz
              unfold eqI at hf
              cases dx with
              | ob c fs =>
                simp only [Bool.and_eq_true] at hf
                obtain ⟨hk, hf⟩ := hf
                cases e1 : tb.lookup c with
                | none =>
                  rw [e1] at hf
                  cases hf
                | some B =>
                  rw [e1] at hf
                  have hf : isT (B [.ob c fs, dy]) = true := hf
                  obtain ⟨⟨f, fd, ps, ow⟩, ck⟩ := ht c B e1
                  have eo : ∃ q', B [.ob c fs, dy] = .ok (.bl true) q' := by
                    unfold isT at hf
                    split at hf
                    · rename_i q' e
                      exact ⟨q', e⟩
                    · cases hf
                  obtain ⟨q', eo⟩ := eo
                  have J1 := inst_at I' n.sta rx
                  obtain ⟨a', rfl, _⟩ := J1
                  obtain rfl : ux = Value.ref a' := rux
                  by_cases same : Value.ref a' = uy
                  · rw [← same]
                    exact SeqAt.EqAt.same (.ref a') X.prog X.w X.xe _ ⟨rfl, F', H', I', n⟩
                  · have sb1 : L2.Sub X k X.A.in1 := L2.Sub.in1 ⟨hr, rfl⟩
                    have rc := cmp_at (OX := OX) (W := W) (op := .Eq) (Q := fun z H2 => z = .bl true ∧ ∃ F2, Nx G OX O O σ F H σ F2 H2 r) sb1 tk rfl ow ck hk hx hK I' n.sta rx ry rfl ruy (by
                      rw [eo]
                      intro z F2 H2 n2 rz
                      cases rz
                      exact ⟨rfl, F2, n.trans n2⟩)
                    unfold eqBool
                    refine wpAny_holding ?_
                    refine wpAny_ite_split (fun hab => absurd (eq_of_beq hab) same) (fun _ => ?_)
                    refine wpAny_bind (wpAny_mono rc (fun z s2 hz => ?_) fun _ _ h => h)
                    obtain ⟨z', H2, I2, rz, ez, F2, n2⟩ := hz
                    subst ez
                    cases (show z = Value.bool true from rz)
                    exact wpAny_truthy_bool ⟨rfl, F2, H2, I2, n2⟩
              | _ => cases hf
            · obtain ⟨F', H', I', n⟩ := hI
              exact ⟨.bl true, H', I', rfl, q _ F' H' n .bl⟩
    · exact low pins s σ F H r _ _ v w u u' Q I S rx ry ru ru' q
end
end Z

/-! The head's facts. -/
namespace Z
open PySem PySem.Spec PyProof.Rows L2

/-- where a def stands: a module's name; a class's method, property, static method -/
inductive Wh where
  | glo (x : Str)
  | met (x m : Str)
  | prp (x m : Str)
  | sta (x m : Str)
def recAt (K : PySem.W.Frag) (p : Addr) (T : String) : Addr := match PySem.W.recIn K p T with
  | some (.ref f :: _) => f
  | _ => 0
def Wh.ad (K : PySem.W.Frag) : Wh → Addr
  | .glo x => He.ga K x
  | .met x m => He.ma K (He.ga K x) m
  | .prp x m => recAt K (He.ma K (He.ga K x) m) "property"
  | .sta x m => recAt K (He.ma K (He.ga K x) m) "staticmethod"
structure DefZ where
  wh : Wh
  name : Str
  qual : Str
  params : Arguments
  body : List Stmt
  scope : Scope
  dfl : List He.Dv := []
def fnZ (K : PySem.W.Frag) (p : Wh) : He.FnW := match K.lookup (p.ad K) with
  | some ⟨_, _, .func g, _⟩ => some (g.name, g.qualname, g.params, g.body, g.scope, g.globals, g.closure, g.builtins)
  | _ => none
def DefZ.val (d : DefZ) : He.FnW := some (d.name, d.qual, d.params, .stmts d.body, d.scope, mainGlobals, [], builtinsNs)
def DefZ.dvs (K : PySem.W.Frag) (d : DefZ) : List V := d.dfl.map (He.Dv.v K)
def DefZ.ok (K : PySem.W.Frag) (d : DefZ) : Bool := PySem.W.keepIn K (.ref (d.wh.ad K)) && (match K.lookup (d.wh.ad K) with
  | some ⟨_, _, .func g, _⟩ => PySem.W.codeIn K g.code d.qual && He.dflB K g.defaults (d.dvs K)
  | _ => false)
theorem DefZ.funD {K : PySem.W.Frag} {d : DefZ} (e : fnZ K d.wh = d.val) (c : d.ok K = true) : ∃ fd, FunD K d.name d.qual d.params d.body d.scope (d.dvs K) [] (d.wh.ad K) fd := by
  obtain ⟨kp, c2⟩ := He.ba c
  unfold fnZ at e
  cases q : K.lookup (d.wh.ad K) with
  | none =>
    rw [q] at c2
    cases c2
  | some o =>
    obtain ⟨oc, od, dt, osl⟩ := o
    rw [q] at c2 e
    cases dt with
    | func g =>
      obtain ⟨m1, m2, m3, m4, m5, m6, m7, m8, m9, m10, m11, m12, m13, m14, m15⟩ := g
      have e2 : (some (m1, m2, m3, m4, m5, m6, m7, m15) : He.FnW) = some (d.name, d.qual, d.params, .stmts d.body, d.scope, mainGlobals, [], builtinsNs) := e
      simp only [Option.some.injEq, Prod.mk.injEq] at e2
      obtain ⟨g1, g2, g3, g4, g5, g6, g7, g8⟩ := e2
      subst g1 g2 g3 g4 g5 g6 g7 g8
      obtain ⟨k1, k2⟩ := He.ba (show (PySem.W.codeIn K m13 d.qual && He.dflB K m8 (d.dvs K)) = true from c2)
      exact ⟨_, ⟨oc, od, m8, m9, m10, m11, m12, m13, m14, osl, rfl, q, k1, He.dflB_ok k2, .inl rfl⟩, kp⟩
    | _ => cases c2
/-! ### facts -/
abbrev Fz : Type := PySem.W.Frag → Bool
/-- what an object names; nothing behind a code object is asked for -/
def refsZ (g : Addr → Option Obj) (a : Addr) : List Addr := match g a with
  | some o => (match o.cls with
    | .type n => (match n == "code" with
      | true => []
      | false => He.refsD o)
    | _ => He.refsD o)
  | none => []
/-- those of l that the mask lacks -/
def addZ : List Addr → Nat → List Addr → Nat × List Addr
  | [], m, acc => (m, acc)
  | b :: l, m, acc => HandSHeadRun.frNat b fun b => match Nat.beq (Nat.mod (Nat.shiftRight m b) 2) 1 with
    | true => addZ l m acc
    | false => HandSHeadRun.frNat (Nat.lor m (Nat.shiftLeft 1 b)) fun m => addZ l m (b :: acc)
def growZ (g : Addr → Option Obj) : Nat → List Addr → Nat → List Addr → List Addr
  | 0, _, _, all => all
  | n + 1, fr, m, all => match addZ (fr.flatMap (refsZ g)) m [] with
    | (m, new) => HandSHeadRun.frNat m fun m => growZ g n new m (all ++ new)
def asZ (g : Addr → Option Obj) (n : Nat) : List Addr := growZ g n [mainGlobals, cStatics] (Nat.lor (Nat.shiftLeft 1 mainGlobals) (Nat.shiftLeft 1 cStatics)) [mainGlobals, cStatics]
def obsZ (fa : List Fz) (fn : List DefZ) (K : PySem.W.Frag) : He.AlD := ((fa.all fun f => f K) && fn.all fun d => d.ok K, fn.map fun d => fnZ K d.wh)
def valZ (fn : List DefZ) : He.AlD := (true, fn.map DefZ.val)
def SaysZ (fa : List Fz) (fn : List DefZ) (K : PySem.W.Frag) : Prop := obsZ fa fn K = valZ fn
def obsZG (n : Nat) (fa : List Fz) (fn : List DefZ) (g : Addr → Option Obj) : He.AlD := obsZ fa fn (He.frG g (asZ g n))
def hookZ (n : Nat) (fa : List Fz) (fn : List DefZ) : PySem.W.Hook where
  α := He.AlD
  obs := fun s => obsZG n fa fn s.heap.get?
  val := fun _ => valZ fn
  says := fun _ h => ∃ K : PySem.W.Frag, K.In h ∧ SaysZ fa fn K
  of := fun _ _ e => ⟨_, He.frG_in, e⟩
  keeps := fun _ _ _ ⟨K, hK, c⟩ k => ⟨K, PySem.W.Frag.In.keeps hK k, c⟩
theorem obsZG_eq {n : Nat} {fa : List Fz} {fn : List DefZ} {g : Addr → Option Obj} {s : Shared} (h : ∀ a, g a = s.heap.get? a) : obsZG n fa fn g = (hookZ n fa fn).obs s := by
  rw [show g = s.heap.get? from funext h]
  rfl
section
variable {fa : List Fz} {fn : List DefZ} {K : PySem.W.Frag}
theorem SaysZ.fact (c : SaysZ fa fn K) (i : Nat) {f : Fz} (h : fa[i]? = some f := by rfl) : f K = true := by
  have h1 := (He.ba (show ((fa.all fun f => f K) && fn.all fun d => d.ok K) = true from congrArg (fun z : He.AlD => z.1) c)).1
  exact List.all_eq_true.mp h1 f (List.mem_of_getElem? h)
theorem SaysZ.def_ (c : SaysZ fa fn K) (i : Nat) {d : DefZ} (h : fn[i]? = some d := by rfl) : ∃ fd, FunD K d.name d.qual d.params d.body d.scope (d.dvs K) [] (d.wh.ad K) fd := by
  have h2 := (He.ba (show ((fa.all fun f => f K) && fn.all fun d => d.ok K) = true from congrArg (fun z : He.AlD => z.1) c)).2
  have h3 : fn.map (fun d => fnZ K d.wh) = fn.map DefZ.val := congrArg (fun z : He.AlD => z.2) c
  have h4 : (fn.map fun d => fnZ K d.wh)[i]? = (fn.map DefZ.val)[i]? := by rw [h3]
  rw [List.getElem?_map, List.getElem?_map, h] at h4
  exact DefZ.funD (Option.some.inj h4) (List.all_eq_true.mp h2 d (List.mem_of_getElem? h))
end
/-! ### what the facts say -/
def eqF {α : Type} [DecidableEq α] (a b : α) : Bool := decide (a = b)
def fGlo (x : Str) : Fz := fun K => (He.Fa.glo x).ok K
def fFree (x : Str) : Fz := fun K => (He.Fa.free x).ok K
def fBlt (x : Str) (id : String) : Fz := fun K => eqF (PySem.W.nsIn K mainGlobals x) (some (some (.builtin id)))
def fInt (x : Str) (i : Int) : Fz := fun K => (He.Fa.int x i).ok K
def fStr (x i : Str) : Fz := fun K => (He.Fa.str x i).ok K
def fCls (x : Str) (fs : List Str) : Fz := fun K => (He.Fa.cls x).ok K && fs.all fun f => (He.Fa.noat x f).ok K
def fMk (x : Str) : Fz := fun K => (He.Fa.mkr x).ok K
def fMet (x m : Str) : Fz := fun K => (He.Fa.meth x m).ok K
def fTy (x : Str) : Fz := fun K => eqF (PySem.W.findIn K (.ref (He.ga K x)) "__class__") (some (some (.builtin "object.__class__"))) && (eqF (PySem.W.specialIn K (.builtin "object.__class__") "__get__") (some (some (.builtin "getset_descriptor.__get__"))) &&
  (eqF (PySem.W.takesIn K (.builtin "object.__class__")) (some true) && eqF (PySem.W.mroIn K (He.ga K x) (.type "object")) (some true)))
def fKiT (x : Str) (n : String) : Fz := fun K => eqF (PySem.W.kitOne K (.ref (He.ga K x)) (.type n)) (some false)
def fKiO (x y : Str) (b : Bool) : Fz := fun K => eqF (PySem.W.kitOne K (.ref (He.ga K x)) (.ref (He.ga K y))) (some b)
def fKiB (y : Str) : Fz := fun K => allTy.all fun m => eqF (PySem.W.kitOne K (.type m) (.ref (He.ga K y))) (some false)
def fRd (x dr : Str) : Fz := fun K => match PySem.W.findIn K (.ref (He.ga K x)) dr with
  | some none => true
  | some (some (.ref _)) => true
  | _ => false
def fSf (x : Str) : Fz := fun K => PySem.W.selfFirst K (He.ga K x)
def fBiT (x dn dr : Str) (T : String) : Fz := fun K => (PySem.W.findIn K (.type T) dn).isSome && ((PySem.W.findIn K (.type T) dr).isSome && eqF (PySem.W.subIn K (.type T) (.ref (He.ga K x))) (some false))
def fSub (x y : Str) : Fz := fun K => eqF (PySem.W.subIn K (.ref (He.ga K y)) (.ref (He.ga K x))) (some false) && !eqF (He.ga K x) (He.ga K y)
def fNfT (x : Str) (T : String) : Fz := fun K => PySem.W.notFirst K (He.ga K x) (.type T)
def fNfO (x y : Str) : Fz := fun K => PySem.W.notFirst K (He.ga K x) (.ref (He.ga K y))
def fNe (x : Str) : Fz := fun K => eqF (PySem.W.findIn K (.ref (He.ga K x)) "__ne__") (some (some (.builtin "object.__ne__")))
def fPrp (x m : Str) : Fz := fun K => eqF (PySem.W.findIn K (.ref (He.ga K x)) m) (some (some (.ref (He.ma K (He.ga K x) m)))) && (eqF (PySem.W.specialIn K (.ref (He.ma K (He.ga K x) m)) "__get__") (some (some (.builtin "property.__get__"))) &&
  (eqF (PySem.W.takesIn K (.ref (He.ma K (He.ga K x) m))) (some true) && (match PySem.W.recIn K (He.ma K (He.ga K x) m) "property" with
    | some (.ref _ :: _) => true
    | _ => false)))
def fSta (x m : Str) : Fz := fun K => PySem.W.readsIn K (He.ga K x) (.type "type") && (eqF (PySem.W.specialIn K (.ref (He.ga K x)) "__getattribute__") (some (some (.builtin "type.__getattribute__"))) &&
  ((match PySem.W.findCls K (.ref (He.ga K x)) (.type "type") m with
    | some (.get (.builtin "staticmethod.__get__") (.ref p) .none (.ref C)) => eqF p (He.ma K (He.ga K x) m) && eqF C (He.ga K x)
    | _ => false) && (match PySem.W.recIn K (He.ma K (He.ga K x) m) "staticmethod" with
    | some (.ref _ :: _) => true
    | _ => false)))
section
variable {K : PySem.W.Frag} {h : Heap} {mg : Str → Option Value}
theorem eqF_ok {α : Type} [DecidableEq α] {a b : α} (h : eqF a b = true) : a = b := of_decide_eq_true h
theorem blt_ok (X : K.In h) (G : h.Ns mainGlobals mg) {x : Str} {id : String} (c : fBlt x id K = true) : mg x = some (.builtin id) := PySem.W.mg_of X G (eqF_ok c)
theorem noat_all {x : Str} {fs : List Str} (c : fCls x fs K = true) : Cls K (He.ga K x) ∧ ∀ f ∈ fs, NoAttr K (He.ga K x) f := by
  obtain ⟨a, b⟩ := He.ba c
  exact ⟨He.cls_ok a, fun f hf => He.noat_ok (List.all_eq_true.mp b f hf)⟩
theorem rd_ok {x dr : Str} (c : fRd x dr K = true) : ∃ rc, PySem.W.findIn K (.ref (He.ga K x)) dr = some rc ∧ (rc = none ∨ ∃ g : Addr, rc = some (.ref g)) := by
  unfold fRd at c
  split at c
  · rename_i e
    exact ⟨_, e, .inl rfl⟩
  · rename_i g e
    exact ⟨_, e, .inr ⟨g, rfl⟩⟩
  · cases c
theorem biT_ok {x dn dr : Str} {T : String} (c : fBiT x dn dr T K = true) : (∃ fo ro, PySem.W.findIn K (.type T) dn = some fo ∧ PySem.W.findIn K (.type T) dr = some ro) ∧ PySem.W.subIn K (.type T) (.ref (He.ga K x)) = some false := by
  obtain ⟨a, b⟩ := He.ba c
  obtain ⟨b, d⟩ := He.ba b
  obtain ⟨fo, e1⟩ := Option.isSome_iff_exists.mp a
  obtain ⟨ro, e2⟩ := Option.isSome_iff_exists.mp b
  exact ⟨⟨fo, ro, e1, e2⟩, eqF_ok d⟩
theorem sub_ok {x y : Str} (c : fSub x y K = true) : PySem.W.subIn K (.ref (He.ga K y)) (.ref (He.ga K x)) = some false ∧ He.ga K x ≠ He.ga K y := by
  obtain ⟨a, b⟩ := He.ba c
  refine ⟨eqF_ok a, fun z => ?_⟩
  rw [show eqF (He.ga K x) (He.ga K y) = true from decide_eq_true z] at b
  cases b
theorem prp_ok {x m : Str} (c : fPrp x m K = true) : PropOf K (He.ga K x) m (He.ma K (He.ga K x) m) ((Wh.prp x m).ad K) := by
  obtain ⟨a, b⟩ := He.ba c
  obtain ⟨b, d⟩ := He.ba b
  obtain ⟨d, e⟩ := He.ba d
  refine ⟨eqF_ok a, eqF_ok b, eqF_ok d, ?_⟩
  show ∃ rest, PySem.W.recIn K (He.ma K (He.ga K x) m) "property" = some (.ref (recAt K (He.ma K (He.ga K x) m) "property") :: rest)
  unfold recAt
  revert e
  split
  · rename_i g rest e
    intro _
    rw [e]
    exact ⟨rest, rfl⟩
  · exact fun z => nomatch z
theorem sta_ok {x m : Str} (c : fSta x m K = true) : PySem.W.readsIn K (He.ga K x) (.type "type") = true ∧ PySem.W.specialIn K (.ref (He.ga K x)) "__getattribute__" = some (some (.builtin "type.__getattribute__")) ∧
    ∃ p rest, PySem.W.findCls K (.ref (He.ga K x)) (.type "type") m = some (.get (.builtin "staticmethod.__get__") (.ref p) .none (.ref (He.ga K x))) ∧ PySem.W.recIn K p "staticmethod" = some (.ref ((Wh.sta x m).ad K) :: rest) := by
  obtain ⟨a, b⟩ := He.ba c
  obtain ⟨b, d⟩ := He.ba b
  obtain ⟨d, e⟩ := He.ba d
  refine ⟨a, eqF_ok b, He.ma K (He.ga K x) m, ?_⟩
  have h1 : PySem.W.findCls K (.ref (He.ga K x)) (.type "type") m = some (.get (.builtin "staticmethod.__get__") (.ref (He.ma K (He.ga K x) m)) .none (.ref (He.ga K x))) := by
    revert d
    split
    · rename_i p C q
      intro d
      obtain ⟨d1, d2⟩ := He.ba d
      rw [q, ← eqF_ok d1, ← eqF_ok d2]
    · exact fun z => nomatch z
  show ∃ rest, _ ∧ PySem.W.recIn K (He.ma K (He.ga K x) m) "staticmethod" = some (.ref (recAt K (He.ma K (He.ga K x) m) "staticmethod") :: rest)
  unfold recAt
  revert e
  split
  · rename_i g rest e
    intro _
    exact ⟨rest, h1, by rw [e]⟩
  · exact fun z => nomatch z
end
/-! ### the end -/
theorem walk_ofZ {l : PySem.W.OpenLaw} {n k : Nat} {q : Program} {loose : List Str} {XP : (Str → Option Value) → Heap → Prop} {YP : World → Heap → Prop} {d : DefRec} {x : Str}
    (hn : l.most = some n) (hn2 : n ≤ sizeLine) (hdf : d.params.defaults = []) (hr : Room k callerA)
    (F : ∀ (w : World) (mg : Str → Option Value) (fa : Addr) (h : Heap), YP w h → h.Ns mainGlobals mg → mg d.name = some (.ref fa) →
      ∃ (K : PySem.W.Frag) (fd : FuncData) (sp : Sp), K.In h ∧ (∀ (s : Shared) (u : Value), BindsTo s fd ⟨[u], []⟩ [(x, u)]) ∧
        (∀ (H : Hp) (a : Addr) (ns : List Int), ns.length ≤ n → Only H → SqL K H a (ns.map V.int) → sp [.ref a] H (fun v _ => v = .bl true) fun _ _ _ => False) ∧
        ∀ base : Heap, K.In base → base.Ns mainGlobals mg → FnOk l.prog w K mg base (L2.CX l.prog w) k fa fd [x] sp) :
    PySem.W.WalkO q loose XP YP l.row.toRowW d [] (fun f vs => PySem.call f vs) := by
  refine Att.attach_call hn hdf fun w s₀ s₁ mg mb fa o pm cd doc a vs ns G Y ho hd hcd hmg hobj hints hlen hg => ?_
  obtain ⟨K, fd, sp, KX, hb, hsp, hF⟩ := F w mg fa _ Y G.T.g hmg
  refine law_call KX G.T.g G.T.b G.T.builtins G.T.nolimit hg hobj hints (Nat.le_trans hlen hn2) hr hF hb (fun H hO hS => hsp H a ns hlen hO hS) fun H e s' z => ?_
  obtain ⟨_, _, _, _, _, _, _, _, _, _, _, _, z⟩ := z
  exact z
end Z

/-! Defs that give a new object away; calls that lend an own one. -/
namespace Z
open PySem PySem.Spec PyProof.Rows L2

def mkF (n m : Nat) (b : M D) : Beh := fun ds => if ds.length = n then (match b (ds.map some ++ List.replicate (m - n) none) with
  | .ok d r => .ok d (keepE [] n r)
  | .ex e r => .ex e (keepE [] n r)
  | .no => .no) else .no
/-- .. the value is new, nobody else's -/
def spF (G : Gm) (n : Nat) (B : Beh) : Sp := fun vs H Q E => vs.length = n ∧ ∃ F ds, Sta G [] F H (vs.map some) (ds.map some) ∧ Pst G (fun c dx _ H' => E c dx H') [] [] [] (vs.map some) F H (RF G [] (vs.map some) H) Q (B ds)
abbrev FnF (P : Program) (w : World) (G : Gm) (mg : Str → Option Value) (base : Heap) (k : Nat) (f : Addr) (fd : FuncData) (ps : List Str) (n : Nat) (B : Beh) : Prop := FnOk P w G.K mg base (L2.CX P w) k f fd ps (spF G n B)
section
variable {G : Gm} {X : Cx} {W : WX} {OX OL vs O O1 O2 O3 : List Nat}
theorem start_sta {N : List Str} {n m : Nat} {vs : List V} {ds : List D} {F H : Hp} (hm : N.length = m) (hl : vs.length = n) (hnm : n ≤ m) (St : Sta G [] F H (vs.map some) (ds.map some)) : Sta G [] F H (L2.start N vs) (ds.map some ++ List.replicate (m - n) none) := by
  have hds : ds.length = n := by
    have := St.len
    rw [List.length_map, List.length_map] at this
    omega
  have e : L2.start N vs = vs.map some ++ List.replicate (m - n) none := by
    unfold L2.start
    rw [hm, hl]
  rw [e]
  refine ⟨St.sub, St.wf, by simp [hds, hl], fun i d hi q => ?_, fun i hi => (nomatch hi), fun i j a hi => (nomatch hi)⟩
  by_cases hlt : i < n
  · rw [List.getElem?_append_left (by simp; omega)] at q ⊢
    exact St.rp i d hi q
  · rw [List.getElem?_append_right (by simp; omega)] at q
    have := List.mem_of_getElem? q
    rw [List.mem_replicate] at this
    cases this.2
theorem def_okF {P : Program} {w : World} {mg : Str → Option Value} {base : Heap} {x qual : Str} {params : Arguments} {e : Expr} {rp : Pos} {scope : Scope} {dvs : List V} {kws : List (Str × V)} {f : Addr} {fd : FuncData} {N ps : List Str} {k : Nat} {n m : Nat} {b : M D} {body : List Stmt}
    (F : FunD G.K x qual params body scope dvs kws f fd) (S : FnScope N ps scope) (hbd : body = [.Return (some e) rp])
    (hb : ∀ (cdv : Value) (A : Around) (outer : List PySem.Env) (s : Shared) (H : Hp) (E : XK), Room k (cxOf (L2.CX P w) P w G.K mg base N qual scope f cdv A outer s H E).A → Takes (cxOf (L2.CX P w) P w G.K mg base N qual scope f cdv A outer s H E) (fun cls d _ H => E cls d H) →
      PE (cxOf (L2.CX P w) P w G.K mg base N qual scope f cdv A outer s H E) e (tF G (fun cls d _ H => E cls d H) [] [] [] b)) (hn : ps.length = n := by rfl) (hm : N.length = m := by rfl) : FnF P w G mg base (k + 1) f fd ps n (mkF n m b) := by
  subst hbd
  refine F.ok S (fun vs H Q E h => h.1.trans hn.symm) (fun cdv A outer s H vs Q E hr h => ⟨_, pss_one (ps_ret (hb cdv A outer s H E hr (takes_of rfl rfl rfl rfl))), ?_⟩)
  obtain ⟨hl, F0, ds, St, p⟩ := h
  have hds : ds.length = n := by
    have := St.len
    rw [List.length_map, List.length_map] at this
    omega
  have hnm : n ≤ m := by
    have h1 := congrArg List.length S.pre
    rw [List.length_take] at h1
    omega
  have SS := start_sta (N := N) hm hl hnm St
  refine ⟨F0, _, SS, ?_⟩
  unfold mkF at p
  rw [if_pos hds] at p
  have et : (L2.start N vs).take n = vs.map some := by
    unfold L2.start
    rw [List.take_left' (by simp [hl])]
  have hln : n ≤ (L2.start N vs).length := by rw [← SS.len]; simp [hds]
  revert p
  cases b (ds.map some ++ List.replicate (m - n) none) with
  | no => exact fun p => p
  | ex e q =>
    intro p c dx F' H' n' xr
    have c1 := n'.cut (n := n) (fun _ z => nomatch z) hln
    rw [et] at c1
    exact p c dx F' H' c1 xr
  | ok d q =>
    intro p v F' H' n' rf
    have c1 := n'.cut (n := n) (fun _ z => nomatch z) hln
    rw [et] at c1
    exact p v F' H' c1 ⟨rf.1, fun a ea => ⟨(rf.2 a ea).1, notOwn_nil⟩⟩
theorem spF_of {σ : L2.St} {F H : Hp} {r : Ev} {ds : List D} {vs : List V} {n : Nat} {B : Beh} {Q : VK} (hx : ∀ i ∈ OX, i ∈ O) (S : Sta G O F H σ r) (h : RepL G F ds vs) (hn : vs.length = n) {σ0 : L2.St} {H0 : Hp} (hH : ∀ a, H a = none → H0 a = none) (p : Pst G W OX O O σ F H (RF G O σ0 H0) Q (out0 (B ds) r)) (e0 : σ0 = σ) :
    spF G n B vs H Q (fun c dx H' => W c dx σ H') := by
  subst e0
  refine ⟨hn, F, ds, Sta.args S.sub S.wf h, ?_⟩
  have stay : ∀ {F' H' : Hp} {r' : Ev}, Nx G [] [] [] (vs.map some) F H (vs.map some) F' H' r' → Nx G OX O O σ0 F H σ0 F' H' r := fun {F' H' r'} n =>
    Nx.of (S.stay (n.stp.weak (Mo1 := fun _ => False) fun x z => absurd z notOwn_nil) n.sta.sub n.sta.wf fun _ _ z => z) (n.stp.weak fun x z => absurd z notOwn_nil) fun _ h => h
  revert p
  cases B ds with
  | no => exact fun p => p
  | ok d q =>
    intro p v F' H' n rf
    refine p v F' H' (stay n) ⟨rf.1, fun a ea => ⟨hH a (rf.2 a ea).1, fun ⟨i, hi, ei⟩ => ?_⟩⟩
    obtain ⟨d', v', _, e2, ow⟩ := S.ow i hi
    rw [ei] at e2
    cases e2
    obtain ⟨b, o, eb, hb⟩ := ow.there
    cases eb
    rw [(rf.2 a ea).1] at hb
    cases hb
  | ex e q => exact fun p c dx F' H' n x => let ⟨F2, n2, sb⟩ := (stay n).freeze hx; p c dx F2 H' n2 (x.mono sb)
structure GfOk (G : Gm) (P : Program) (w : World) (mg : Str → Option Value) (base : Heap) (k : Nat) (x : Str) (n : Nat) (B : Beh) (f : Addr) (fd : FuncData) (ps : List Str) : Prop where
  at_ : mg x = some (.ref f)
  kp : PySem.W.keepIn G.K (.ref f) = true
  fn : FnF P w G mg base k f fd ps n B
  bd : Binds G.K fd ps []
  ar : ∀ ds, ds.length ≠ n → B ds = .no
theorem arF_of {n m : Nat} {b : M D} : ∀ ds, ds.length ≠ n → mkF n m b ds = .no := fun ds h => if_neg h
/-- f(e, ..), the value this code's own -/
theorem e_callF {x : Str} {p pos : Pos} {e : Expr} {es : List Expr} {k n : Nat} {B : Beh} {f : Addr} {fd : FuncData} {ps : List Str} {g : M (List D)} (tk : Takes X W) (hr : Room k X.A) (gl : GfOk G X.prog X.w X.mg X.base k x n B f fd ps)
    (ha : PA X (e :: es) (tA G W OX O O1 g)) (hx : ∀ i ∈ OX, i ∈ O1 := by decide) (hg : Gl X x := by rfl) (hK : X.K = G.K := by rfl) (hdb : (x == ("__debug__" : Str)) = false := by decide)
    (he : starEach (e :: es) X.env = (false, eval e X.env) :: starEach es X.env := by rfl) (hpl : (backTo pos (starEach es X.env)).any (·.1) = false := by rfl) : PE X (.Call (.Name x p) (e :: es) [] pos) (tF G W OX O O1 (eCd B [] g)) := by
  refine ⟨fun pins s σ H Q I ⟨F, r, S, p⟩ => ?_⟩
  refine wpAny_Call_Name_kw (ld_glob I hg gl.at_ ?_ hdb)
  refine PySem.W.callWith_K (h₀ := X.base) I.ok.mod.kin (by rw [hK]; exact gl.kp) (thn (ha.run pos pins s σ H (fun vs H1 => ∃ ds F1 r1, Nx G OX O O1 σ F H σ F1 H1 r1 ∧ RepL G F1 ds vs ∧ Pst G W OX O1 O1 σ F1 H1 (RF G O1 σ H) Q (out0 (B (ds ++ [])) r1)) I
    (tX_bind S p fun ds vs F1 H1 r1 n1 rs p => ⟨ds, F1, r1, n1, rs, p⟩)) fun us s1 ⟨vs, H1, I1, rv, ds, F1, r1, n1, rs, p⟩ => ⟨I1.kIn, ?_⟩) he hpl
  have Fk : FnOk X.prog X.w X.K X.mg X.base (L2.CX X.prog X.w) k f fd ps (spF G n B) := by rw [hK]; exact gl.fn
  rw [List.append_nil] at p
  have hl : vs.length = n := by
    by_cases h : ds.length = n
    · rw [← rs.length, h]
    · rw [gl.ar ds h] at p
      exact p.elim
  have sp := spF_of hx n1.sta rs hl (fun a => n1.stp.tr a) p rfl
  have z := run_fnSD (E := WE W) (dvs := []) (ds := []) Fk hr (by rw [hK]; exact gl.bd) .nil (passAt tk σ) I1 rv (by rw [List.append_nil]; exact sp)
  exact z
/-- [e, ..]: a new list of this code's own -/
theorem f_lst {es : List Expr} {pos : Pos} {f : M (List D)} (h : PA X es (tA G W OX O O1 f)) : PE X (.List es pos) (tF G W OX O O1 (eN pLst f)) :=
  (pe_lst h).imp fun σ H Q ⟨F, r, S, p⟩ => tX_bind S p fun ds vs F1 H1 r1 n1 rs p => by
    revert p
    unfold pLst
    by_cases hz : okLen ds = true
    · rw [if_pos hz]
      intro p
      refine ⟨big_line (by have := rs.length; have := of_decide_eq_true hz; omega), fun q hq => ?_⟩
      obtain ⟨S2, s2, fp⟩ := new_ow (o := .lst vs) n1.sta hq rfl
      refine p _ F1 _ (Nx.of S2 s2 fun _ h => h) ⟨.lst upd_same fp rs, fun b eb => ?_⟩
      cases eb
      refine ⟨n1.stp.tr _ hq, fun ⟨i, hi, ei⟩ => ?_⟩
      obtain ⟨d', v', _, e2', ow⟩ := n1.sta.ow i hi
      rw [ei] at e2'
      cases e2'
      obtain ⟨b, o, eb, hb⟩ := ow.there
      cases eb
      rw [hq] at hb
      cases hb
    · rw [if_neg hz]
      exact fun p => p.elim
/-- f(x, e, ..), x this code's own: the def may change it -/
theorem e_callO {x y : Str} {p py pos : Pos} {es : List Expr} {k n : Nat} {B : Beh} {f : Addr} {fd : FuncData} {ps : List Str} {g : M (List D)} (i : Nat) (tk : Takes X W) (hr : Room k X.A) (gl : GlOk G X.prog X.w X.mg X.base k x n [0] B f fd ps) (hb : Binds G.K fd ps [])
    (ha : PA X es (tA G W OX O O1 g)) (hi : i ∈ O := by decide) (hi1 : i ∈ O1 := by decide) (hx : ∀ i ∈ OX, i ∈ O1 := by decide) (hN : X.N[i]? = some y := by rfl) (hv : Vis X.env.scope y := by first | exact Or.inl rfl | exact Or.inr (Or.inl rfl) | exact Or.inr (Or.inr rfl)) (hg : Gl X x := by rfl) (hK : X.K = G.K := by rfl)
    (hd : (y == ("__debug__" : Str)) = false := by decide) (hcd : (y == ("__classdict__" : Str)) = false := by decide) (hdb : (x == ("__debug__" : Str)) = false := by decide)
    (he : starEach (.Name y py :: es) X.env = (false, eval (.Name y py) X.env) :: starEach es X.env := by rfl) (hpl : (backTo pos (starEach es X.env)).any (·.1) = false := by rfl) : PE X (.Call (.Name x p) (.Name y py :: es) [] pos) (tE G W OX O O1 (eCo B i g)) := by
  refine ⟨fun pins s σ H Q I ⟨F, r, S, p⟩ => ?_⟩
  refine wpAny_Call_Name_kw (ld_glob I hg gl.at_ ?_ hdb)
  obtain ⟨d0, v0, _, e0, o0⟩ := S.ow i hi
  refine PySem.W.callWith_K (h₀ := X.base) I.ok.mod.kin (by rw [hK]; exact gl.kp) (thn ((pa_cons (pe_var hN hv hd hcd) ha he).run pos pins s σ H (fun vs H1 => ∃ vs', vs = v0 :: vs' ∧ ∃ ds F1 r1, Nx G OX O O1 σ F H σ F1 H1 r1 ∧ RepL G F1 ds vs' ∧ Pst G W OX O1 O1 σ F1 H1 (RD G) Q (match r1[i]? with
    | some (some d0) => out1 (B (d0 :: ds)) i r1
    | _ => .no)) I ⟨v0, e0, tX_bind S p fun ds vs F1 H1 r1 n1 rs p => ⟨vs, rfl, ds, F1, r1, n1, rs, p⟩⟩) fun us s1 ⟨vs, H1, I1, rv, vs', ev, ds, F1, r1, n1, rs, p⟩ => ⟨I1.kIn, ?_⟩) he hpl
  subst ev
  have Fk : FnOk X.prog X.w X.K X.mg X.base (L2.CX X.prog X.w) k f fd ps (spB G n [0] B) := by rw [hK]; exact gl.fn
  revert p
  split
  · rename_i d1 e1
    intro p
    have hl : (d1 :: ds).length = n := by
      by_cases h : (d1 :: ds).length = n
      · exact h
      · rw [gl.ar _ h] at p
        exact p.elim
    have hl2 : (v0 :: vs').length = n := by rw [← hl, List.length_cons, List.length_cons, rs.length]
    have sp := spB_of1 hx n1.sta hi1 e1 e0 rs hl2 p
    exact run_fnSD (E := WE W) (dvs := []) (ds := []) Fk hr (by rw [hK]; exact hb) .nil (passAt tk σ) I1 rv (by rw [List.append_nil]; exact sp)
  · exact fun p => p.elim
end
end Z

/-! Forms that the printed derivations use. -/
namespace Z
open PySem PySem.Spec PyProof.Rows L2

theorem lk_nil {α : Type} {p : Nat → α → Prop} : ∀ c a, List.lookup c ([] : List (Nat × α)) = some a → p c a := fun _ _ e => nomatch e
theorem lk_cons {α : Type} {p : Nat → α → Prop} {d : Nat} {b : α} {tb : List (Nat × α)} (h : p d b) (t : ∀ c a, tb.lookup c = some a → p c a) : ∀ c a, List.lookup c ((d, b) :: tb) = some a → p c a := fun c a e => by
  rw [List.lookup_cons] at e
  split at e
  · rename_i q
    cases e
    rw [beq_iff_eq.mp q]
    exact h
  · exact t c a e
theorem mem_nil {α : Type} {p : α → Prop} : ∀ a ∈ ([] : List α), p a := fun _ h => nomatch h
theorem mem_cons {α : Type} {p : α → Prop} {b : α} {l : List α} (h : p b) (t : ∀ a ∈ l, p a) : ∀ a ∈ b :: l, p a := fun a m => by
  rcases List.mem_cons.mp m with e | m
  · rw [e]
    exact h
  · exact t a m
theorem bindK0 {K : PySem.W.Frag} {x qual : Str} {params : Arguments} {body : List Stmt} {scope : Scope} {f : Addr} {fd : FuncData} {ps : List Str} (F : FunD K x qual params body scope [] [] f fd) (n : Nat) (ks : List Str) (o : List Nat)
    (h : ∀ (kV doc pm : Value) (an : Option Addr) (cdv ct : Value) (us ws : List Value), us.length = n → ws.length = ks.length → bindArgs (PySem.W.fnOf x qual params body scope .none kV doc pm an cdv ct) ⟨us, ks.zip ws⟩ = pure (ps.zip (permL o (us ++ ws ++ [])))) : BindK K fd ps n ks o [] := by
  obtain ⟨oc, od, dV, kV, doc, pm, an, cdv, ct, osl, rfl, lk, hcd, hD, hK⟩ := F.ex
  rcases hD with ⟨_, rfl⟩ | ⟨e, _⟩
  · exact fun s us ws _ h1 h2 => .of_eq (h kV doc pm an cdv ct us ws h1 h2)
  · exact absurd rfl e
theorem fn_up {P : Program} {w : World} {G : Gm} {mg : Str → Option Value} {base : Heap} {j k : Nat} {f : Addr} {fd : FuncData} {ps : List Str} {n : Nat} {io : List Nat} {B : Beh} (h : FnB P w G mg base j f fd ps n io B) (l : j ≤ k) : FnB P w G mg base k f fd ps n io B :=
  FnOk.mono h l
section
variable {G : Gm} {X : Cx} {W : WX} {OX OL vs O O1 O2 O3 : List Nat}
/-- the owned slots behind it as one writes them -/
theorem s_to {st : Stmt} {f : M Fl} (h : PS X st (tS G W OX OL O O1 f)) (e : O1 = O2 := by rfl) : PS X st (tS G W OX OL O O2 f) := e ▸ h
theorem g_to {tg : Expr} {g : Tg} (h : PG X tg (tG G OX vs O O1 g)) (e : O1 = O2 := by rfl) : PG X tg (tG G OX vs O O2 g) := e ▸ h
theorem e_gint {x : Str} {pos : Pos} {i : Int} (hm : ∃ t, X.mg x = some (.int i t)) (hg : Gl X x := by rfl) (hd : (x == ("__debug__" : Str)) = false := by decide) : PE X (.Name x pos) (tE G W OX O O (eK (.int i))) := by
  obtain ⟨t, hm⟩ := hm
  exact e_of (v := .int i) (pe_glob hg hm ⟨t, rfl⟩ hd) fun _ => .int
theorem e_gstr {x i : Str} {pos : Pos} (hm : ∃ t, X.mg x = some (.str i t)) (hg : Gl X x := by rfl) (hd : (x == ("__debug__" : Str)) = false := by decide) : PE X (.Name x pos) (tE G W OX O O (eK (.str i))) := by
  obtain ⟨t, hm⟩ := hm
  exact e_of (v := .str i) (pe_glob hg hm ⟨t, rfl⟩ hd) fun _ => .str
theorem e_bo1 {op : BoolOp} {a : Expr} {pos : Pos} {t : TE} (h : PE X a t) (he : eval (.BoolOp op [a] pos) X.env = eval a X.env := by rfl) : PE X (.BoolOp op [a] pos) t := ⟨fun pins s σ H Q I q => by rw [he]; exact h.run pins s σ H Q I q⟩
/-- a value's test, by its value -/
theorem tv_of {f : M D} {σ : L2.St} {H : Hp} {Q : Bool → Hp → Prop} (h : tT G W OX O O1 (tV f) σ H Q) : tE G W OX O O1 f σ H fun v H1 => ∃ c, v = .bl c ∧ Q c H1 := by
  obtain ⟨F, r, S, p⟩ := h
  refine tX_bind S p fun x v F1 H1 r1 n1 rx p => ?_
  revert p
  split
  · intro p
    cases rx
    exact ⟨_, rfl, p _ F1 H1 (Nx.rfl' n1.sta) rfl⟩
  · exact fun p => p.elim
theorem t_cmp {op : CmpOp} {a b : Expr} {pos : Pos} {o : D → D → Ev → Out D} {f g : M D} (ho : Op2 G X W OX O2 (compareOp op) o) (ha : PE X a (tE G W OX O O1 f)) (hb : PE X b (tE G W OX O1 O2 g)) (hm : behindInMarks op b = false := by first | exact nomark _ | rfl) :
    PT X (.Compare a [op] [b] pos) (tT G W OX O O2 (tV (eB o f g))) :=
  ⟨fun pins s σ H Q I h => by
    obtain ⟨F, r, S, p⟩ := tv_of h
    exact wpAny_isTrue_Compare1 (two ha hb I S p fun x y v w u u' s2 F2 H2 r2 I2 S2 rx ry ru ru' p => thn (ho pins s2 σ F2 H2 r2 x y v w u u' _ I2 S2 rx ry ru ru' p) fun c s3 ⟨z, H3, I3, rz, b, e, q⟩ => (by
      subst e
      cases rz
      exact wpAny_truthy_bool ⟨H3, I3, q⟩)) hm⟩
theorem t_isN {a : Expr} {j pos pos'} {f : M D} (ha : PE X a (tE G W OX O O1 f)) : PT X (.Compare a [.Is] [.Constant .none j pos'] pos) (tT G W OX O O1 (tV (eIsN f))) :=
  (pt_cmp (pc_isN ha) rfl).imp fun σ H Q h => by
    obtain ⟨F, r, S, p⟩ := tv_of h
    refine tX_bind S p fun x v F1 H1 r1 n1 rx p => ?_
    rw [rx.isN]
    exact p.ok n1.sta .bl
theorem t_notN {a : Expr} {j pos pos'} {f : M D} (ha : PE X a (tE G W OX O O1 f)) : PT X (.Compare a [.IsNot] [.Constant .none j pos'] pos) (tT G W OX O O1 (tV (eNotN f))) :=
  (pt_cmp (pc_notN ha) rfl).imp fun σ H Q h => by
    obtain ⟨F, r, S, p⟩ := tv_of h
    refine tX_bind S p fun x v F1 H1 r1 n1 rx p => ?_
    rw [rx.isN]
    exact p.ok n1.sta .bl
theorem t_chain {op op' : CmpOp} {a b c : Expr} {pos : Pos} {o o' : D → D → Ev → Out D} {f g h : M D} (ho : Op2 G X W OX O (compareOp op) o) (ho' : Op2 G X W OX O (compareOp op') o') (ha : PE X a (tE G W OX O O f)) (hb : PE X b (tE G W OX O O g))
    (hc : PE X c (tE G W OX O O h)) (hm : lastMarks [op, op'] [b, c] = false := by with_unfolding_all rfl) : PT X (.Compare a [op, op'] [b, c] pos) (tT G W OX O O (tV (eChain o o' f g h))) := by
  refine ⟨fun pins s σ H Q I hh => ?_⟩
  obtain ⟨F, r, S, p⟩ := tv_of hh
  refine isTrue_chain (thn (ha.run pins s σ H (fun v H1 => ∃ x, tE G W OX O O g σ H1 fun w H2 => ∃ F2 r2 y, Sta G O F2 H2 σ r2 ∧ Rep G F2 x v ∧ Rep G F2 y w ∧ Pst G W OX O O σ F2 H2 (RD G) (fun v H1 => ∃ c, v = .bl c ∧ Q c H1)
      ((o x y r2).bind fun z r3 => onBl z fun b => if b then (h r3).bind fun w r4 => o' y w r4 else .ok (.bl false) r3)) I
    (tX_bind S p fun x v F1 H1 r1 n1 rx p => ⟨x, tX_bind n1.sta p fun y w F2 H2 r2 n2 ry p => ⟨F2, r2, y, n2.sta, rx.mono n2.stp.fz, ry, p⟩⟩)) fun u s1 ⟨v, H1, I1, ru, x, q1⟩ =>
    test_link (thn (hb.run pins s1 σ H1 _ I1 q1) fun u' s2 ⟨w, H2, I2, ru', F2, r2, y, S2, rx, ry, p⟩ => ?_)) hm
  refine thn (ho pins s2 σ F2 H2 r2 _ y v w u u' _ I2 S2 rx ry ru ru' (Pst.bind (Rl := RD G) (O1 := O) p)) fun d s3 ⟨v3, H3, I3, r3', z, F3, r3, n3, rz, p⟩ => ?_
  cases rz with
  | @bl b =>
    cases r3'
    refine wpAny_truthy_bool ?_
    cases b with
    | false =>
      obtain ⟨b', e', q'⟩ := p.ok n3.sta .bl
      cases e'
      exact ite_ff ⟨H3, I3, q'⟩
    | true =>
      refine ite_tt (test_last (thn (hc.run pins s3 σ H3 (fun w' H4 => ∃ F4 r4 z', Sta G O F4 H4 σ r4 ∧ Sub F3 F4 ∧ Rep G F4 z' w' ∧ Pst G W OX O O σ F4 H4 (RD G) (fun v H1 => ∃ c, v = .bl c ∧ Q c H1) (o' y z' r4)) I3
        (tX_bind n3.sta p fun z' w' F4 H4 r4 n4 rz p => ⟨F4, r4, z', n4.sta, n4.stp.fz, rz, p⟩)) fun u'' s4 ⟨w', H4, I4, r4', F4, r4, z', S4, sb4, rz, p⟩ => ?_))
      refine thn (ho' pins s4 σ F4 H4 r4 y z' w w' u' u'' _ I4 S4 (ry.mono (n3.stp.fz.trans sb4)) rz ru' r4' p) fun d' s5 ⟨z2, H5, I5, r5, k2, e2, q5⟩ => ?_
      subst e2
      cases r5
      exact wpAny_truthy_bool ⟨H5, I5, q5⟩
  | _ => exact p.elim
/-- x if c else y, as a test -/
theorem t_if {c a b : Expr} {pos : Pos} {t f g : M Bool} (hc : PT X c (tT G W OX O O1 t)) (ha : PT X a (tT G W OX O1 O2 f)) (hb : PT X b (tT G W OX O1 O2 g))
    (he : ∀ whole, isTrue (.IfExp c a b pos) X.env whole = (do if ← isTrue c X.env (eval c X.env) then isTrue a X.env (eval a X.env) else isTrue b X.env (eval b X.env)) := by intro _; rfl) : PT X (.IfExp c a b pos) (tT G W OX O O2 (fun r => (t r).bind fun z r1 => if z then f r1 else g r1)) :=
  ⟨fun pins s σ H Q I ⟨F, r, S, p⟩ => by
    rw [he]
    refine wpAny_bind (thn (hc.run pins s σ H (fun z H1 => ∃ F1 r1, Sta G O1 F1 H1 σ r1 ∧ Pst G W OX O1 O2 σ F1 H1 RB Q (if z then f r1 else g r1)) I (tX_bind S p fun z z' F1 H1 r1 n1 e p => (by subst e; exact ⟨F1, r1, n1.sta, p⟩))) fun z s1 ⟨H1, I1, F1, r1, S1, p⟩ => ?_)
    cases z with
    | true => exact ha.run pins s1 σ H1 Q I1 ⟨F1, r1, S1, p⟩
    | false => exact hb.run pins s1 σ H1 Q I1 ⟨F1, r1, S1, p⟩⟩
end
/-- the law's promise from what it answers -/
theorem end_of {G : Gm} {B : Beh} {H : Hp} {a : Addr} {ns : List Int} {r : Ev} (hO : Only H) (hS : SqL G.K H a (ns.map V.int)) (h : B [.kl (ns.map D.int)] = .ok (.bl true) r) : spB G 1 [] B [.ref a] H (fun v _ => v = .bl true) fun _ _ _ => False := by
  refine ⟨rfl, H, [.kl (ns.map D.int)], Sta.args .rfl' (fun b C dx fs f e => ?_) (.cons (.kl hS (RepL.ofInts ns)) .nil), ?_⟩
  · rcases hO b with q | ⟨o, xs, q⟩
    · rw [q] at e
      cases e
    · rw [q] at e
      cases e
  · rw [h]
    intro v F' H' n rd
    cases rd
    rfl
end Z

/-! What the plain operations answer. -/
namespace Z
open PySem PySem.Spec PyProof.Rows L2

@[simp] theorem pEq_int (i j : Int) : pEq (.int i) (.int j) = some (.bl (decide (i = j))) := by
  unfold pEq pEqB toP SeqAt.shaped
  simp [PyData.canLay0, PyData.depth, PyData.eqv]
  by_cases h : i = j <;> simp [h]
@[simp] theorem pNe_int (i j : Int) : pNe (.int i) (.int j) = some (.bl (!decide (i = j))) := by
  unfold pNe pEqB toP SeqAt.shaped
  simp [PyData.canLay0, PyData.depth, PyData.eqv]
  by_cases h : i = j <;> simp [h]
theorem pEq_str {a b : Str} (ha : PyData.strOk a = true) (hb : PyData.strOk b = true) : pEq (.str a) (.str b) = some (.bl (decide (a = b))) := by
  unfold pEq pEqB toP SeqAt.shaped
  simp [PyData.canLay0, PyData.depth, PyData.eqv, ha, hb]
  by_cases h : a = b <;> simp [h]
theorem pNe_str {a b : Str} (ha : PyData.strOk a = true) (hb : PyData.strOk b = true) : pNe (.str a) (.str b) = some (.bl (!decide (a = b))) := by
  unfold pNe pEqB toP SeqAt.shaped
  simp [PyData.canLay0, PyData.depth, PyData.eqv, ha, hb]
  by_cases h : a = b <;> simp [h]
theorem toPs_ints (ns : List Int) : toPs (ns.map D.int) = some (ns.map PyData.int) := by
  induction ns with
  | nil => rfl
  | cons n ns ih => simp [toPs, toP, ih]
theorem canLay_ints (ns : List Int) : PyData.canLayAll0 (ns.map PyData.int) = true := by
  induction ns with
  | nil => rfl
  | cons n ns ih => simp [PyData.canLayAll0, PyData.canLay0, ih]
theorem depth_ints (ns : List Int) : PyData.depthAll (ns.map PyData.int) = 0 := by
  induction ns with
  | nil => rfl
  | cons n ns ih => simp [PyData.depthAll, PyData.depth, ih]
theorem pNe_nil (ns : List Int) : pNe (.lst (ns.map .int)) (.lst []) = some (.bl (!ns.isEmpty)) := by
  unfold pNe pEqB toP SeqAt.shaped
  rw [toPs_ints]
  cases ns with
  | nil => simp [PyData.canLay0, PyData.canLayAll0, PyData.depth, PyData.depthAll, PyData.eqv, PyData.eqvAll, toPs]
  | cons n ns => simp [PyData.canLay0, PyData.canLayAll0, canLay_ints, PyData.depth, PyData.depthAll, depth_ints, PyData.eqv, PyData.eqvAll, toPs]
@[simp] theorem pAdd_int (i j : Int) : pAdd (.int i) (.int j) = some (.int (i + j)) := rfl
@[simp] theorem pSub_int (i j : Int) : pSub (.int i) (.int j) = some (.int (i - j)) := rfl
@[simp] theorem pNeg_int (i : Int) : pNeg (.int i) = some (.int (-i)) := rfl
@[simp] theorem pLt_int (i j : Int) : pLt (.int i) (.int j) = some (.bl (decide (i < j))) := rfl
@[simp] theorem pLe_int (i j : Int) : pLe (.int i) (.int j) = some (.bl (decide (i ≤ j))) := rfl
@[simp] theorem pGt_int (i j : Int) : pGt (.int i) (.int j) = some (.bl (decide (j < i))) := rfl
@[simp] theorem pGe_int (i j : Int) : pGe (.int i) (.int j) = some (.bl (decide (j ≤ i))) := rfl
@[simp] theorem pInt_int (i : Int) : pInt [.int i] = some (.int i) := rfl
@[simp] theorem pInt_bl (b : Bool) : pInt [.bl b] = some (.int (if b then 1 else 0)) := rfl
@[simp] theorem pBool_int (i : Int) : pBool [.int i] = some (.bl (i != 0)) := rfl
@[simp] theorem pAbs_int (i : Int) : pAbs [.int i] = some (.int (if i < 0 then -i else i)) := rfl
@[simp] theorem pGcd_int (a b : Int) : pGcd [.int a, .int b] = some (.int ((Int.gcd a b : Nat) : Int)) := rfl
theorem wd_small {n k : Nat} {i : Int} (h : i.natAbs < 2 ^ k) (h0 : 0 < k) (hk : k ≤ n) : wd n i = true := wd_of h h0 hk
theorem mulB_left {i j : Int} (h : i.natAbs < 2 ^ 60) : mulB i j = true := by
  unfold mulB
  rw [wd_of h (by omega) (Nat.le_refl _)]
  rfl
theorem mulB_right {i j : Int} (h : j.natAbs < 2 ^ 60) : mulB i j = true := by
  unfold mulB
  rw [wd_of (n := 60) h (by omega) (Nat.le_refl _)]
  simp
theorem mulB_both {i j : Int} {a b : Nat} (h : i.natAbs < 2 ^ a) (h' : j.natAbs < 2 ^ b) (ha : 0 < a) (hb : 0 < b) (ha' : a ≤ 400000) (hb' : b ≤ 400000) : mulB i j = true := by
  unfold mulB
  rw [wd_of (n := 400000) h ha ha', wd_of (n := 400000) h' hb hb']
  simp
theorem pMul_int {i j : Int} (h : mulB i j = true) : pMul (.int i) (.int j) = some (.int (i * j)) := by
  unfold pMul
  exact if_pos h
theorem pDiv_int {i j : Int} (h : wd 8000 j = true) (h0 : j ≠ 0) : pDiv (.int i) (.int j) = some (.int (i.fdiv j)) := by
  unfold pDiv
  exact if_pos (by simp [h, h0])
theorem pMod_int {i j : Int} (h0 : j ≠ 0) : pMod (.int i) (.int j) = some (.int (i.fmod j)) := by
  unfold pMod
  exact if_neg h0
theorem pPow_int {i j : Int} (h0 : 0 ≤ j) (h1 : j ≤ 1000000) (h : i.natAbs < 2 ^ 64) : pPow (.int i) (.int j) = some (.int (i ^ j.toNat)) := by
  unfold pPow
  exact if_pos ⟨h0, h1, h⟩
theorem pLen_lst {l : List D} : pLen [.lst l] = some (.int (l.length : Nat)) := rfl
theorem pLen_tup {l : List D} : pLen [.tup l] = some (.int (l.length : Nat)) := rfl
theorem pLen_kl {l : List D} : pLen [.kl l] = some (.int (l.length : Nat)) := rfl
theorem pSum_lst (ns : List Int) : pSum [.lst (ns.map D.int)] = some (.int ns.sum) := by
  unfold pSum lisOf
  simp [toInts_map]
theorem pAll_lst (bs : List Bool) : pAll [.lst (bs.map D.bl)] = some (.bl (bs.all id)) := by
  unfold pAll lisOf
  simp [toBls_map]
theorem pTup_ok {l : List D} (h : l.length ≤ 64) : pTup l = some (.tup l) := by
  unfold pTup okLen big
  rw [if_pos (by simp; omega)]
theorem pLst_ok {l : List D} (h : l.length ≤ 64) : pLst l = some (.lst l) := by
  unfold pLst okLen big
  rw [if_pos (by simp; omega)]
theorem keepE_no (n : Nat) (r : Ev) : keepE [] n r = List.replicate n none := by
  unfold keepE
  apply List.ext_getElem
  · simp
  · intro i h1 h2
    simp
theorem keepE_at (n : Nat) (r : Ev) : keepE [0] (n + 1) r = r.getD 0 none :: List.replicate n none := by
  unfold keepE
  apply List.ext_getElem
  · simp
  · intro i h1 h2
    cases i with
    | zero => simp
    | succ i => simp
@[simp] theorem keepE1 (r : Ev) : keepE [] 1 r = [none] := keepE_no 1 r
@[simp] theorem keepE2 (r : Ev) : keepE [] 2 r = [none, none] := keepE_no 2 r
@[simp] theorem keepE3 (r : Ev) : keepE [] 3 r = [none, none, none] := keepE_no 3 r
@[simp] theorem keepE4 (r : Ev) : keepE [] 4 r = [none, none, none, none] := keepE_no 4 r
@[simp] theorem keepE5 (r : Ev) : keepE [] 5 r = [none, none, none, none, none] := keepE_no 5 r
@[simp] theorem keepE1' (r : Ev) : keepE [0] 1 r = [r.getD 0 none] := keepE_at 0 r
@[simp] theorem keepE2' (r : Ev) : keepE [0] 2 r = [r.getD 0 none, none] := keepE_at 1 r
@[simp] theorem keepE3' (r : Ev) : keepE [0] 3 r = [r.getD 0 none, none, none] := keepE_at 2 r
@[simp] theorem keepE4' (r : Ev) : keepE [0] 4 r = [r.getD 0 none, none, none, none] := keepE_at 3 r
@[simp] theorem keepE5' (r : Ev) : keepE [0] 5 r = [r.getD 0 none, none, none, none, none] := keepE_at 4 r
@[simp] theorem keepE6' (r : Ev) : keepE [0] 6 r = [r.getD 0 none, none, none, none, none, none] := keepE_at 5 r
end Z

namespace Kw
open PySem PySem.Spec PyProof.Rows L2 Z
def top (i : Nat) : Stmt := PySem.Challenge.pw_whosefirst_k05_steps_add_up.main.body.getD i (.Pass ⟨0, 0, 0, 0⟩)
def cnm : Nat → Str
  | 0 => ("Ratio" : PySem.Str)
  | 1 => ("Step" : PySem.Str)
  | _ => ""
def lay : Nat → List Str
  | 0 => [("top" : PySem.Str), ("bottom" : PySem.Str)]
  | 1 => [("time" : PySem.Str), ("place" : PySem.Str), ("axes" : PySem.Str), ("square" : PySem.Str), ("kind" : PySem.Str)]
  | _ => []
def flds : List Str := [("top" : PySem.Str), ("bottom" : PySem.Str), ("time" : PySem.Str), ("place" : PySem.Str), ("axes" : PySem.Str), ("square" : PySem.Str), ("kind" : PySem.Str)]
def gm (K : PySem.W.Frag) : Gm := ⟨K, fun c => He.ga K (cnm c), lay, fun _ => true, flds⟩
/-- _law_sack -/
abbrev s0 : Stmt := (top 37)
def d0 : DefZ := ⟨.glo ("_law_sack" : PySem.Str), ("_law_sack" : PySem.Str), ("_law_sack" : PySem.Str), defArgs s0, defBody s0, defScope s0, []⟩
def N0 : List Str := [("_law_script" : PySem.Str), ("_law_cell" : PySem.Str)]
theorem sc0 : FnScope N0 [("_law_script" : PySem.Str)] (defScope s0) := ⟨rfl, rfl, rfl, by decide +kernel, rfl, by decide +kernel, by decide +kernel⟩
def b__law_sack : M D := (eN pLst (aCons (eLc [1] (itL (eSl (eV 0) iNo (iSo (eK (.int 61))))) (gN 1) tY (eN pInt (aCons (eV 1) aNil))) (aCons (eK (.int 0)) (aCons (eK (.int 0)) aNil))))
def B__law_sack : Beh := mkF 1 2 b__law_sack
/-- _law_take -/
abbrev s1 : Stmt := (top 38)
def d1 : DefZ := ⟨.glo ("_law_take" : PySem.Str), ("_law_take" : PySem.Str), ("_law_take" : PySem.Str), defArgs s1, defBody s1, defScope s1, []⟩
def N1 : List Str := [("_law_sack_here" : PySem.Str), ("_law_many" : PySem.Str), ("_law_rest" : PySem.Str), ("_law_turn" : PySem.Str), ("_law_cell" : PySem.Str), ("_law_mixed" : PySem.Str)]
theorem sc1 : FnScope N1 [("_law_sack_here" : PySem.Str), ("_law_many" : PySem.Str)] (defScope s1) := ⟨rfl, rfl, rfl, by decide +kernel, rfl, by decide +kernel, by decide +kernel⟩
def b__law_take : M Fl := (sSeq (sIf (tV (eB (oP pGt) (eIxO 0 (eK (.int 2))) (eK (.int 0)))) (sSeq (sAs 2 (eIxO 0 (eK (.int 2)))) (sSeq (sIx 0 (eB (oP pDiv) (eN pInt (aCons (eV 2) aNil)) (eV 1)) (eK (.int 2))) (sRet (eB (oP pMod) (eN pInt (aCons (eV 2) aNil)) (eV 1))))) sNil) (sSeq (sAs 3 (eIxO 0 (eK (.int 1)))) (sSeq (sIx 0 (eB (oP pAdd) (eV 3) (eK (.int 1))) (eK (.int 1))) (sSeq (sAs 4 (eB (oP pAdd) (eB (oP pMul) (eK (.int 53197)) (eV 3)) (eK (.int 4021)))) (sSeq (sIf (tV (eB (oP pNe) (eIxO 0 (eK (.int 0))) (eN pLst aNil))) (sAs 4 (eB (oP pIx) (eIxO 0 (eK (.int 0))) (eB (oP pMod) (eN pInt (aCons (eV 3) aNil)) (eN pLen (aCons (eIxO 0 (eK (.int 0))) aNil))))) sNil) (sSeq (sIf (tAn (tV (eB (oP pLt) (eV 3) (eN pLen (aCons (eIxO 0 (eK (.int 0))) aNil)))) (tV (eB (oP pGe) (eN pAbs (aCons (eV 4) aNil)) (eB (oP pPow) (eK (.int 10)) (eK (.int 18)))))) (sSeq (sAs 2 (eB (oP pAdd) (eB (oP pMul) (eK (.int 2)) (eB (oP pSub) (eN pAbs (aCons (eV 4) aNil)) (eB (oP pPow) (eK (.int 10)) (eK (.int 18))))) (eN pInt (aCons (eB (oP pLt) (eV 4) (eK (.int 0))) aNil)))) (sSeq (sIx 0 (eB (oP pDiv) (eN pInt (aCons (eV 2) aNil)) (eV 1)) (eK (.int 2))) (sRet (eB (oP pMod) (eN pInt (aCons (eV 2) aNil)) (eV 1))))) sNil) (sSeq (sAs 5 (eB (oP pMod) (eN pInt (aCons (eB (oP pPow) (eB (oP pAdd) (eB (oP pAdd) (eB (oP pMod) (eN pInt (aCons (eV 4) aNil)) (eK (.int 2147483587))) (eB (oP pMul) (eK (.int 62213)) (eV 3))) (eK (.int 4021))) (eK (.int 5))) aNil)) (eK (.int 2147483647)))) (sSeq (sAs 5 (eB (oP pMod) (eN pInt (aCons (eB (oP pPow) (eB (oP pAdd) (eB (oP pAdd) (eB (oP pMul) (eV 5) (eB (oP pAdd) (eB (oP pMul) (eK (.int 2)) (eV 3)) (eK (.int 2131)))) (eB (oP pMul) (eB (oP pMul) (eK (.int 53197)) (eV 3)) (eV 3))) (eK (.int 71993))) (eK (.int 3))) aNil)) (eK (.int 2147483629)))) (sRet (eB (oP pMod) (eN pInt (aCons (eB (oP pDiv) (eV 5) (eK (.int 64))) aNil)) (eV 1)))))))))))
def B__law_take : Beh := mkB 2 6 [0] b__law_take
/-- _law_of -/
abbrev s2 : Stmt := (top 39)
def d2 : DefZ := ⟨.glo ("_law_of" : PySem.Str), ("_law_of" : PySem.Str), ("_law_of" : PySem.Str), defArgs s2, defBody s2, defScope s2, []⟩
def N2 : List Str := [("_law_sack_here" : PySem.Str), ("_law_some" : PySem.Str)]
theorem sc2 : FnScope N2 [("_law_sack_here" : PySem.Str), ("_law_some" : PySem.Str)] (defScope s2) := ⟨rfl, rfl, rfl, by decide +kernel, rfl, by decide +kernel, by decide +kernel⟩
def b__law_of : M Fl := (sRet (eB (oP pIx) (eV 1) (eCo B__law_take 0 (aCons (eN pLen (aCons (eV 1) aNil)) aNil))))
def B__law_of : Beh := mkB 2 2 [0] b__law_of
/-- _law_plain -/
abbrev s3 : Stmt := (top 40)
def d3 : DefZ := ⟨.glo ("_law_plain" : PySem.Str), ("_law_plain" : PySem.Str), ("_law_plain" : PySem.Str), defArgs s3, defBody s3, defScope s3, []⟩
def N3 : List Str := [("_law_sack_here" : PySem.Str), ("_law_axes" : PySem.Str), ("_law_size" : PySem.Str), ("_law_number" : PySem.Str)]
theorem sc3 : FnScope N3 [("_law_sack_here" : PySem.Str), ("_law_axes" : PySem.Str)] (defScope s3) := ⟨rfl, rfl, rfl, by decide +kernel, rfl, by decide +kernel, by decide +kernel⟩
def b__law_plain : M Fl := (sSeq (sAs 2 (eCo B__law_of 0 (aCons (eN pLst (aCons (eK (.int 1)) (aCons (eK (.int 3)) (aCons (eK (.int 12)) aNil)))) aNil))) (sRet (eN pTup (aCons (eLc [3] (itN pRng (aCons (eB (oP pAdd) (eV 1) (eK (.int 1))) aNil)) (gN 3) tY (eB (oP pSub) (eCo B__law_take 0 (aCons (eB (oP pAdd) (eB (oP pMul) (eK (.int 2)) (eV 2)) (eK (.int 1))) aNil)) (eV 2))) (aCons (eB (oP pAdd) (eK (.int 1)) (eCo B__law_take 0 (aCons (eK (.int 6)) aNil))) aNil)))))
def B__law_plain : Beh := mkB 2 4 [0] b__law_plain
/-- _law_is -/
abbrev s4 : Stmt := (top 43)
def d4 : DefZ := ⟨.glo ("_law_is" : PySem.Str), ("_law_is" : PySem.Str), ("_law_is" : PySem.Str), defArgs s4, defBody s4, defScope s4, []⟩
def N4 : List Str := [("_law_told" : PySem.Str), ("_law_top" : PySem.Str), ("_law_bottom" : PySem.Str)]
theorem sc4 : FnScope N4 [("_law_told" : PySem.Str), ("_law_top" : PySem.Str), ("_law_bottom" : PySem.Str)] (defScope s4) := ⟨rfl, rfl, rfl, by decide +kernel, rfl, by decide +kernel, by decide +kernel⟩
def b__law_is : M Fl := (sRet (eAnd (eIsi (kO [(0, true), (1, false)]) (eV 0)) (eAnd (eB (oP pGt) (eFl [(0, 1)] (eV 0)) (eK (.int 0))) (eB (oP pEq) (eB (oP pMul) (eFl [(0, 0)] (eV 0)) (eV 2)) (eB (oP pMul) (eV 1) (eFl [(0, 1)] (eV 0)))))))
def B__law_is : Beh := mkB 3 3 [] b__law_is
/-- _law_times -/
abbrev s5 : Stmt := (top 44)
def d5 : DefZ := ⟨.glo ("_law_times" : PySem.Str), ("_law_times" : PySem.Str), ("_law_times" : PySem.Str), defArgs s5, defBody s5, defScope s5, []⟩
def N5 : List Str := [("_law_one" : PySem.Str), ("_law_other" : PySem.Str), ("_law_mine" : PySem.Str), ("_law_its" : PySem.Str)]
theorem sc5 : FnScope N5 [("_law_one" : PySem.Str), ("_law_other" : PySem.Str)] (defScope s5) := ⟨rfl, rfl, rfl, by decide +kernel, rfl, by decide +kernel, by decide +kernel⟩
def b__law_times : M Fl := (sRet (eB (oP pSub) (eB (oP pMul) (eB (oP pIx) (eV 0) (eK (.int 0))) (eB (oP pIx) (eV 1) (eK (.int 0)))) (eN pSum (aCons (eLc [2, 3] (itN pZip (aCons (eSl (eV 0) (iSo (eK (.int 1))) iNo) (aCons (eSl (eV 1) (iSo (eK (.int 1))) iNo) aNil))) (gT [(gN 2), (gN 3)]) tY (eB (oP pMul) (eV 2) (eV 3))) aNil))))
def B__law_times : Beh := mkB 2 4 [] b__law_times
/-- _law_kind -/
abbrev s6 : Stmt := (top 45)
def d6 : DefZ := ⟨.glo ("_law_kind" : PySem.Str), ("_law_kind" : PySem.Str), ("_law_kind" : PySem.Str), defArgs s6, defBody s6, defScope s6, []⟩
def N6 : List Str := [("_law_numbers" : PySem.Str), ("_law_square" : PySem.Str)]
theorem sc6 : FnScope N6 [("_law_numbers" : PySem.Str)] (defScope s6) := ⟨rfl, rfl, rfl, by decide +kernel, rfl, by decide +kernel, by decide +kernel⟩
def b__law_kind : M Fl := (sSeq (sAs 1 (eCd B__law_times [] (aCons (eV 0) (aCons (eV 0) aNil)))) (sSeq (sIf (tV (eB (oP pLt) (eV 1) (eK (.int 0)))) (sRet (eK (.str "apart"))) sNil) (sRet (eIf (tV (eB (oP pEq) (eB (oP pIx) (eV 0) (eK (.int 0))) (eK (.int 0)))) (eK (.str "nothing")) (eIf (tV (eB (oP pGt) (eB (oP pIx) (eV 0) (eK (.int 0))) (eK (.int 0)))) (eK (.str "forward")) (eK (.str "backward")))))))
def B__law_kind : Beh := mkB 1 2 [] b__law_kind
/-- _law_step_right -/
abbrev s7 : Stmt := (top 46)
def d7 : DefZ := ⟨.glo ("_law_step_right" : PySem.Str), ("_law_step_right" : PySem.Str), ("_law_step_right" : PySem.Str), defArgs s7, defBody s7, defScope s7, []⟩
def N7 : List Str := [("_law_step" : PySem.Str), ("_law_numbers" : PySem.Str), ("_law_bottom" : PySem.Str), ("_law_at" : PySem.Str), ("_law_number" : PySem.Str)]
theorem sc7 : FnScope N7 [("_law_step" : PySem.Str), ("_law_numbers" : PySem.Str), ("_law_bottom" : PySem.Str)] (defScope s7) := ⟨rfl, rfl, rfl, by decide +kernel, rfl, by decide +kernel, by decide +kernel⟩
def b__law_step_right : M Fl := (sSeq (sIf (tOn (tNo (tV (eIsi (kO [(0, false), (1, true)]) (eV 0)))) (tOn (tNo (tV (eCd B__law_is [] (aCons (eFl [(1, 0)] (eV 0)) (aCons (eB (oP pIx) (eV 1) (eK (.int 0))) (aCons (eV 2) aNil)))))) (tV (eB (oP pNe) (eN pLen (aCons (eFl [(1, 1)] (eV 0)) aNil)) (eB (oP pSub) (eN pLen (aCons (eV 1) aNil)) (eK (.int 1))))))) (sRet (eK (.bl false))) sNil) (sSeq (sIf (tV (eB (oP pNe) (eLc [3, 4] (itN pEnu (aCons (eSl (eV 1) (iSo (eK (.int 1))) iNo) aNil)) (gT [(gN 3), (gN 4)]) (tNo (tV (eCd B__law_is [] (aCons (eB (oP pIx) (eFl [(1, 1)] (eV 0)) (eV 3)) (aCons (eV 4) (aCons (eV 2) aNil)))))) (eV 3)) (eN pLst aNil))) (sRet (eK (.bl false))) sNil) (sRet (eAnd (eCd B__law_is [] (aCons (eFl [(1, 3)] (eV 0)) (aCons (eCd B__law_times [] (aCons (eV 1) (aCons (eV 1) aNil))) (aCons (eB (oP pMul) (eV 2) (eV 2)) aNil)))) (eB (oP pEq) (eFl [(1, 4)] (eV 0)) (eCd B__law_kind [] (aCons (eV 1) aNil)))))))
def B__law_step_right : Beh := mkB 3 5 [] b__law_step_right
/-- is_integer -/
abbrev s8 : Stmt := (top 4)
def d8 : DefZ := ⟨.glo ("is_integer" : PySem.Str), ("is_integer" : PySem.Str), ("is_integer" : PySem.Str), defArgs s8, defBody s8, defScope s8, []⟩
def N8 : List Str := [("value" : PySem.Str)]
theorem sc8 : FnScope N8 [("value" : PySem.Str)] (defScope s8) := ⟨rfl, rfl, rfl, by decide +kernel, rfl, by decide +kernel, by decide +kernel⟩
def b_is_integer : M Fl := (sRet (eAnd (eIsi (kT [0, 1] "int") (eV 0)) (eNot (eIsi (kT [0, 1] "bool") (eV 0)))))
def B_is_integer : Beh := mkB 1 1 [] b_is_integer
/-- Ratio.__init__ -/
abbrev s9 : Stmt := ((C8.clsBody (top 24)).getD 0 (.Pass ⟨0, 0, 0, 0⟩))
def d9 : DefZ := ⟨.met ("Ratio" : PySem.Str) ("__init__" : PySem.Str), ("__init__" : PySem.Str), ("Ratio.__init__" : PySem.Str), defArgs s9, defBody s9, defScope s9, [.int (1)]⟩
def N9 : List Str := [("self" : PySem.Str), ("top" : PySem.Str), ("bottom" : PySem.Str), ("common" : PySem.Str)]
theorem sc9 : FnScope N9 [("self" : PySem.Str), ("top" : PySem.Str), ("bottom" : PySem.Str)] (defScope s9) := ⟨rfl, rfl, rfl, by decide +kernel, rfl, by decide +kernel, by decide +kernel⟩
def b_Ratio___init__ : M Fl := (sSeq (sIf (tNo (tV (eCd B_is_integer [] (aCons (eV 1) aNil)))) sNo sNil) (sSeq (sIf (tOn (tNo (tV (eCd B_is_integer [] (aCons (eV 2) aNil)))) (tV (eB (oP pEq) (eV 2) (eK (.int 0))))) sNo sNil) (sSeq (sAs 3 (eIf (tV (eB (oP pGt) (eV 2) (eK (.int 0)))) (eN pGcd (aCons (eV 1) (aCons (eV 2) aNil))) (eU (oU pNeg) (eN pGcd (aCons (eV 1) (aCons (eV 2) aNil)))))) (sSeq (sFl 0 [(0, 0)] (eB (oP pDiv) (eV 1) (eV 3))) (sFl 0 [(0, 1)] (eB (oP pDiv) (eV 2) (eV 3)))))))
def B_Ratio___init__ : Beh := mkB 3 4 [0] b_Ratio___init__
/-- ratio_from -/
abbrev s10 : Stmt := (top 21)
def d10 : DefZ := ⟨.glo ("ratio_from" : PySem.Str), ("ratio_from" : PySem.Str), ("ratio_from" : PySem.Str), defArgs s10, defBody s10, defScope s10, []⟩
def N10 : List Str := [("value" : PySem.Str), ("part" : PySem.Str)]
theorem sc10 : FnScope N10 [("value" : PySem.Str), ("part" : PySem.Str)] (defScope s10) := ⟨rfl, rfl, rfl, by decide +kernel, rfl, by decide +kernel, by decide +kernel⟩
def b_ratio_from : M Fl := (sSeq (sIf (tV (eIsi (kO [(0, true), (1, false)]) (eV 0))) (sRet (eV 0)) sNil) (sSeq (sIf (tNo (tV (eCd B_is_integer [] (aCons (eV 0) aNil)))) sNo sNil) (sRet (eNd 0 B_Ratio___init__ [.int (1)] (aCons (eV 0) aNil)))))
def B_ratio_from : Beh := mkB 2 2 [] b_ratio_from
/-- Ratio.of -/
abbrev s11 : Stmt := ((C8.clsBody (top 24)).getD 1 (.Pass ⟨0, 0, 0, 0⟩))
def d11 : DefZ := ⟨.sta ("Ratio" : PySem.Str) ("of" : PySem.Str), ("of" : PySem.Str), ("Ratio.of" : PySem.Str), defArgs s11, defBody s11, defScope s11, []⟩
def N11 : List Str := [("value" : PySem.Str)]
theorem sc11 : FnScope N11 [("value" : PySem.Str)] (defScope s11) := ⟨rfl, rfl, rfl, by decide +kernel, rfl, by decide +kernel, by decide +kernel⟩
def b_Ratio_of : M Fl := (sRet (eCd B_ratio_from [] (aCons (eV 0) (aCons (eK (.str "value")) aNil))))
def B_Ratio_of : Beh := mkB 1 1 [] b_Ratio_of
/-- Ratio.__add__ -/
abbrev s12 : Stmt := ((C8.clsBody (top 24)).getD 4 (.Pass ⟨0, 0, 0, 0⟩))
def d12 : DefZ := ⟨.met ("Ratio" : PySem.Str) ("__add__" : PySem.Str), ("__add__" : PySem.Str), ("Ratio.__add__" : PySem.Str), defArgs s12, defBody s12, defScope s12, []⟩
def N12 : List Str := [("self" : PySem.Str), ("other" : PySem.Str), ("more" : PySem.Str)]
theorem sc12 : FnScope N12 [("self" : PySem.Str), ("other" : PySem.Str)] (defScope s12) := ⟨rfl, rfl, rfl, by decide +kernel, rfl, by decide +kernel, by decide +kernel⟩
def b_Ratio___add__ : M Fl := (sSeq (sAs 2 (eCd B_ratio_from [] (aCons (eV 1) (aCons (eK (.str "other")) aNil)))) (sRet (eNd 0 B_Ratio___init__ [] (aCons (eB (oP pAdd) (eB (oP pMul) (eFl [(0, 0)] (eV 0)) (eFl [(0, 1)] (eV 2))) (eB (oP pMul) (eFl [(0, 0)] (eV 2)) (eFl [(0, 1)] (eV 0)))) (aCons (eB (oP pMul) (eFl [(0, 1)] (eV 0)) (eFl [(0, 1)] (eV 2))) aNil)))))
def B_Ratio___add__ : Beh := mkB 2 3 [] b_Ratio___add__
/-- Ratio.__neg__ -/
abbrev s13 : Stmt := ((C8.clsBody (top 24)).getD 7 (.Pass ⟨0, 0, 0, 0⟩))
def d13 : DefZ := ⟨.met ("Ratio" : PySem.Str) ("__neg__" : PySem.Str), ("__neg__" : PySem.Str), ("Ratio.__neg__" : PySem.Str), defArgs s13, defBody s13, defScope s13, []⟩
def N13 : List Str := [("self" : PySem.Str)]
theorem sc13 : FnScope N13 [("self" : PySem.Str)] (defScope s13) := ⟨rfl, rfl, rfl, by decide +kernel, rfl, by decide +kernel, by decide +kernel⟩
def b_Ratio___neg__ : M Fl := (sRet (eNd 0 B_Ratio___init__ [] (aCons (eU (oU pNeg) (eFl [(0, 0)] (eV 0))) (aCons (eFl [(0, 1)] (eV 0)) aNil))))
def B_Ratio___neg__ : Beh := mkB 1 1 [] b_Ratio___neg__
/-- Ratio.__sub__ -/
abbrev s14 : Stmt := ((C8.clsBody (top 24)).getD 5 (.Pass ⟨0, 0, 0, 0⟩))
def d14 : DefZ := ⟨.met ("Ratio" : PySem.Str) ("__sub__" : PySem.Str), ("__sub__" : PySem.Str), ("Ratio.__sub__" : PySem.Str), defArgs s14, defBody s14, defScope s14, []⟩
def N14 : List Str := [("self" : PySem.Str), ("other" : PySem.Str)]
theorem sc14 : FnScope N14 [("self" : PySem.Str), ("other" : PySem.Str)] (defScope s14) := ⟨rfl, rfl, rfl, by decide +kernel, rfl, by decide +kernel, by decide +kernel⟩
def b_Ratio___sub__ : M Fl := (sRet (eB (oW [(0, B_Ratio___add__)] ["int"] [0, 1] pAdd) (eV 0) (eU (oC1 [(0, B_Ratio___neg__)] pNeg) (eCd B_ratio_from [] (aCons (eV 1) (aCons (eK (.str "other")) aNil))))))
def B_Ratio___sub__ : Beh := mkB 2 2 [] b_Ratio___sub__
/-- Ratio.__mul__ -/
abbrev s15 : Stmt := ((C8.clsBody (top 24)).getD 6 (.Pass ⟨0, 0, 0, 0⟩))
def d15 : DefZ := ⟨.met ("Ratio" : PySem.Str) ("__mul__" : PySem.Str), ("__mul__" : PySem.Str), ("Ratio.__mul__" : PySem.Str), defArgs s15, defBody s15, defScope s15, []⟩
def N15 : List Str := [("self" : PySem.Str), ("other" : PySem.Str), ("times" : PySem.Str)]
theorem sc15 : FnScope N15 [("self" : PySem.Str), ("other" : PySem.Str)] (defScope s15) := ⟨rfl, rfl, rfl, by decide +kernel, rfl, by decide +kernel, by decide +kernel⟩
def b_Ratio___mul__ : M Fl := (sSeq (sAs 2 (eCd B_ratio_from [] (aCons (eV 1) (aCons (eK (.str "other")) aNil)))) (sRet (eNd 0 B_Ratio___init__ [] (aCons (eB (oP pMul) (eFl [(0, 0)] (eV 0)) (eFl [(0, 0)] (eV 2))) (aCons (eB (oP pMul) (eFl [(0, 1)] (eV 0)) (eFl [(0, 1)] (eV 2))) aNil)))))
def B_Ratio___mul__ : Beh := mkB 2 3 [] b_Ratio___mul__
/-- is_listed -/
abbrev s16 : Stmt := (top 6)
def d16 : DefZ := ⟨.glo ("is_listed" : PySem.Str), ("is_listed" : PySem.Str), ("is_listed" : PySem.Str), defArgs s16, defBody s16, defScope s16, []⟩
def N16 : List Str := [("value" : PySem.Str)]
theorem sc16 : FnScope N16 [("value" : PySem.Str)] (defScope s16) := ⟨rfl, rfl, rfl, by decide +kernel, rfl, by decide +kernel, by decide +kernel⟩
def b_is_listed : M Fl := (sRet (eIsi (kAny [(kT [0, 1] "list"), (kT [0, 1] "tuple")]) (eV 0)))
def B_is_listed : Beh := mkB 1 1 [] b_is_listed
/-- is_ratio -/
abbrev s17 : Stmt := (top 19)
def d17 : DefZ := ⟨.glo ("is_ratio" : PySem.Str), ("is_ratio" : PySem.Str), ("is_ratio" : PySem.Str), defArgs s17, defBody s17, defScope s17, []⟩
def N17 : List Str := [("value" : PySem.Str)]
theorem sc17 : FnScope N17 [("value" : PySem.Str)] (defScope s17) := ⟨rfl, rfl, rfl, by decide +kernel, rfl, by decide +kernel, by decide +kernel⟩
def b_is_ratio : M Fl := (sRet (eOr (eIsi (kO [(0, true), (1, false)]) (eV 0)) (eCd B_is_integer [] (aCons (eV 0) aNil))))
def B_is_ratio : Beh := mkB 1 1 [] b_is_ratio
/-- are_ratios -/
abbrev s18 : Stmt := (top 20)
def d18 : DefZ := ⟨.glo ("are_ratios" : PySem.Str), ("are_ratios" : PySem.Str), ("are_ratios" : PySem.Str), defArgs s18, defBody s18, defScope s18, []⟩
def N18 : List Str := [("value" : PySem.Str), ("each" : PySem.Str)]
theorem sc18 : FnScope N18 [("value" : PySem.Str)] (defScope s18) := ⟨rfl, rfl, rfl, by decide +kernel, rfl, by decide +kernel, by decide +kernel⟩
def b_are_ratios : M Fl := (sRet (eAnd (eCd B_is_listed [] (aCons (eV 0) aNil)) (eN pAll (aCons (eLc [1] (itL (eV 0)) (gN 1) tY (eCd B_is_ratio [] (aCons (eV 1) aNil))) aNil))))
def B_are_ratios : Beh := mkB 1 2 [] b_are_ratios
/-- summed -/
abbrev s19 : Stmt := (top 25)
def d19 : DefZ := ⟨.glo ("summed" : PySem.Str), ("summed" : PySem.Str), ("summed" : PySem.Str), defArgs s19, defBody s19, defScope s19, []⟩
def N19 : List Str := [("ratios" : PySem.Str), ("total" : PySem.Str), ("each" : PySem.Str)]
theorem sc19 : FnScope N19 [("ratios" : PySem.Str)] (defScope s19) := ⟨rfl, rfl, rfl, by decide +kernel, rfl, by decide +kernel, by decide +kernel⟩
def b_summed : M Fl := (sSeq (sIf (tNo (tV (eCd B_are_ratios [] (aCons (eV 0) aNil)))) sNo sNil) (sSeq (sAs 1 (eNd 0 B_Ratio___init__ [.int (1)] (aCons (eK (.int 0)) aNil))) (sSeq (sFor (itL (eV 0)) (gN 2) (sAs 1 (eB (oW [(0, B_Ratio___add__)] ["int"] [0, 1] pAdd) (eV 1) (eV 2)))) (sRet (eV 1)))))
def B_summed : Beh := mkB 1 3 [] b_summed
/-- product_at -/
abbrev s20 : Stmt := (top 31)
def d20 : DefZ := ⟨.glo ("product_at" : PySem.Str), ("product_at" : PySem.Str), ("product_at" : PySem.Str), defArgs s20, defBody s20, defScope s20, []⟩
def N20 : List Str := [("one" : PySem.Str), ("other" : PySem.Str), ("mine" : PySem.Str), ("its" : PySem.Str)]
theorem sc20 : FnScope N20 [("one" : PySem.Str), ("other" : PySem.Str)] (defScope s20) := ⟨rfl, rfl, rfl, by decide +kernel, rfl, by decide +kernel, by decide +kernel⟩
def b_product_at : M Fl := (sRet (eB (oW [(0, B_Ratio___sub__)] ["int"] [0, 1] pSub) (eB (oW [(0, B_Ratio___mul__)] ["int"] [0, 1] pMul) (eFl [(1, 0)] (eV 0)) (eFl [(1, 0)] (eV 1))) (eCd B_summed [] (aCons (eLc [2, 3] (itN pZip (aCons (eFl [(1, 1)] (eV 0)) (aCons (eFl [(1, 1)] (eV 1)) aNil))) (gT [(gN 2), (gN 3)]) tY (eB (oW [(0, B_Ratio___mul__)] ["int"] [0, 1] pMul) (eV 2) (eV 3))) aNil))))
def B_product_at : Beh := mkB 2 4 [] b_product_at
/-- Ratio.sign -/
abbrev s21 : Stmt := ((C8.clsBody (top 24)).getD 3 (.Pass ⟨0, 0, 0, 0⟩))
def d21 : DefZ := ⟨.prp ("Ratio" : PySem.Str) ("sign" : PySem.Str), ("sign" : PySem.Str), ("Ratio.sign" : PySem.Str), defArgs s21, defBody s21, defScope s21, []⟩
def N21 : List Str := [("self" : PySem.Str)]
theorem sc21 : FnScope N21 [("self" : PySem.Str)] (defScope s21) := ⟨rfl, rfl, rfl, by decide +kernel, rfl, by decide +kernel, by decide +kernel⟩
def b_Ratio_sign : M Fl := (sRet (eB (oP pSub) (eN pInt (aCons (eB (oP pGt) (eFl [(0, 0)] (eV 0)) (eK (.int 0))) aNil)) (eN pInt (aCons (eB (oP pLt) (eFl [(0, 0)] (eV 0)) (eK (.int 0))) aNil))))
def B_Ratio_sign : Beh := mkB 1 1 [] b_Ratio_sign
/-- kind_by -/
abbrev s22 : Stmt := (top 30)
def d22 : DefZ := ⟨.glo ("kind_by" : PySem.Str), ("kind_by" : PySem.Str), ("kind_by" : PySem.Str), defArgs s22, defBody s22, defScope s22, []⟩
def N22 : List Str := [("time" : PySem.Str), ("square" : PySem.Str)]
theorem sc22 : FnScope N22 [("time" : PySem.Str), ("square" : PySem.Str)] (defScope s22) := ⟨rfl, rfl, rfl, by decide +kernel, rfl, by decide +kernel, by decide +kernel⟩
def b_kind_by : M Fl := (sSeq (sIf (tV (eB (oP pLt) (ePr [(0, B_Ratio_sign)] (eV 1)) (eK (.int 0)))) (sRet (eK (.str "apart"))) sNil) (sSeq (sIf (tV (eB (oP pEq) (ePr [(0, B_Ratio_sign)] (eV 0)) (eK (.int 0)))) (sRet (eK (.str "nothing"))) sNil) (sRet (eIf (tV (eB (oP pGt) (ePr [(0, B_Ratio_sign)] (eV 0)) (eK (.int 0)))) (eK (.str "forward")) (eK (.str "backward"))))))
def B_kind_by : Beh := mkB 2 2 [] b_kind_by
/-- Step.__init__ -/
abbrev s23 : Stmt := ((C8.clsBody (top 34)).getD 0 (.Pass ⟨0, 0, 0, 0⟩))
def d23 : DefZ := ⟨.met ("Step" : PySem.Str) ("__init__" : PySem.Str), ("__init__" : PySem.Str), ("Step.__init__" : PySem.Str), defArgs s23, defBody s23, defScope s23, []⟩
def N23 : List Str := [("self" : PySem.Str), ("time" : PySem.Str), ("place" : PySem.Str), ("each" : PySem.Str)]
theorem sc23 : FnScope N23 [("self" : PySem.Str), ("time" : PySem.Str), ("place" : PySem.Str)] (defScope s23) := ⟨rfl, rfl, rfl, by decide +kernel, rfl, by decide +kernel, by decide +kernel⟩
def b_Step___init__ : M Fl := (sSeq (sIf (tNo (tV (eCd B_is_ratio [] (aCons (eV 1) aNil)))) sNo sNil) (sSeq (sIf (tOn (tNo (tV (eCd B_are_ratios [] (aCons (eV 2) aNil)))) (tNo (tV (eChain (oP pLe) (oP pLe) (eK (.int 1)) (eN pLen (aCons (eV 2) aNil)) (eK (.int (3))))))) sNo sNil) (sSeq (sFl 0 [(1, 0)] (eCd B_Ratio_of [] (aCons (eV 1) aNil))) (sSeq (sFl 0 [(1, 1)] (eN pTuple (aCons (eLc [3] (itL (eV 2)) (gN 3) tY (eCd B_Ratio_of [] (aCons (eV 3) aNil))) aNil))) (sSeq (sFl 0 [(1, 2)] (eN pLen (aCons (eFl [(1, 1)] (eS (fun _ => true) 0)) aNil))) (sSeq (sFl 0 [(1, 3)] (eCd B_product_at [] (aCons (eS (fun _ => true) 0) (aCons (eS (fun _ => true) 0) aNil)))) (sFl 0 [(1, 4)] (eCd B_kind_by [] (aCons (eFl [(1, 0)] (eS (fun _ => true) 0)) (aCons (eFl [(1, 3)] (eS (fun _ => true) 0)) aNil))))))))))
def B_Step___init__ : Beh := mkB 3 4 [0] b_Step___init__
/-- _law_made -/
abbrev s24 : Stmt := (top 42)
def d24 : DefZ := ⟨.glo ("_law_made" : PySem.Str), ("_law_made" : PySem.Str), ("_law_made" : PySem.Str), defArgs s24, defBody s24, defScope s24, []⟩
def N24 : List Str := [("_law_plain_here" : PySem.Str), ("_law_numbers" : PySem.Str), ("_law_bottom" : PySem.Str), ("_law_number" : PySem.Str)]
theorem sc24 : FnScope N24 [("_law_plain_here" : PySem.Str)] (defScope s24) := ⟨rfl, rfl, rfl, by decide +kernel, rfl, by decide +kernel, by decide +kernel⟩
def b__law_made : M Fl := (sSeq (sTg (gT [(gN 1), (gN 2)]) (eV 0)) (sRet (eNd 1 B_Step___init__ [] (aCons (eNd 0 B_Ratio___init__ [] (aCons (eB (oP pIx) (eV 1) (eK (.int 0))) (aCons (eV 2) aNil))) (aCons (eLc [3] (itL (eSl (eV 1) (iSo (eK (.int 1))) iNo)) (gN 3) tY (eNd 0 B_Ratio___init__ [] (aCons (eV 3) (aCons (eV 2) aNil)))) aNil)))))
def B__law_made : Beh := mkB 1 4 [] b__law_made
/-- need_step -/
abbrev s25 : Stmt := (top 28)
def d25 : DefZ := ⟨.glo ("need_step" : PySem.Str), ("need_step" : PySem.Str), ("need_step" : PySem.Str), defArgs s25, defBody s25, defScope s25, []⟩
def N25 : List Str := [("value" : PySem.Str), ("part" : PySem.Str)]
theorem sc25 : FnScope N25 [("value" : PySem.Str), ("part" : PySem.Str)] (defScope s25) := ⟨rfl, rfl, rfl, by decide +kernel, rfl, by decide +kernel, by decide +kernel⟩
def b_need_step : M Fl := (sIf (tNo (tV (eIsi (kO [(0, false), (1, true)]) (eV 0)))) sNo sNil)
def B_need_step : Beh := mkB 2 2 [] b_need_step
/-- need_axes -/
abbrev s26 : Stmt := (top 29)
def d26 : DefZ := ⟨.glo ("need_axes" : PySem.Str), ("need_axes" : PySem.Str), ("need_axes" : PySem.Str), defArgs s26, defBody s26, defScope s26, []⟩
def N26 : List Str := [("one" : PySem.Str), ("other" : PySem.Str)]
theorem sc26 : FnScope N26 [("one" : PySem.Str), ("other" : PySem.Str)] (defScope s26) := ⟨rfl, rfl, rfl, by decide +kernel, rfl, by decide +kernel, by decide +kernel⟩
def b_need_axes : M Fl := (sIf (tV (eB (oP pNe) (eFl [(1, 2)] (eV 0)) (eFl [(1, 2)] (eV 1)))) sNo sNil)
def B_need_axes : Beh := mkB 2 2 [] b_need_axes
/-- Step.__add__ -/
abbrev s27 : Stmt := ((C8.clsBody (top 34)).getD 3 (.Pass ⟨0, 0, 0, 0⟩))
def d27 : DefZ := ⟨.met ("Step" : PySem.Str) ("__add__" : PySem.Str), ("__add__" : PySem.Str), ("Step.__add__" : PySem.Str), defArgs s27, defBody s27, defScope s27, []⟩
def N27 : List Str := [("self" : PySem.Str), ("other" : PySem.Str), ("mine" : PySem.Str), ("its" : PySem.Str)]
theorem sc27 : FnScope N27 [("self" : PySem.Str), ("other" : PySem.Str)] (defScope s27) := ⟨rfl, rfl, rfl, by decide +kernel, rfl, by decide +kernel, by decide +kernel⟩
def b_Step___add__ : M Fl := (sSeq (sEx (eCd B_need_step [] (aCons (eV 1) (aCons (eK (.str "other")) aNil)))) (sSeq (sEx (eCd B_need_axes [] (aCons (eV 0) (aCons (eV 1) aNil)))) (sRet (eNd 1 B_Step___init__ [] (aCons (eB (oW [(0, B_Ratio___add__)] ["int"] [0, 1] pAdd) (eFl [(1, 0)] (eV 0)) (eFl [(1, 0)] (eV 1))) (aCons (eLc [2, 3] (itN pZip (aCons (eFl [(1, 1)] (eV 0)) (aCons (eFl [(1, 1)] (eV 1)) aNil))) (gT [(gN 2), (gN 3)]) tY (eB (oW [(0, B_Ratio___add__)] ["int"] [0, 1] pAdd) (eV 2) (eV 3))) aNil))))))
def B_Step___add__ : Beh := mkB 2 4 [] b_Step___add__
/-- Step.__neg__ -/
abbrev s28 : Stmt := ((C8.clsBody (top 34)).getD 6 (.Pass ⟨0, 0, 0, 0⟩))
def d28 : DefZ := ⟨.met ("Step" : PySem.Str) ("__neg__" : PySem.Str), ("__neg__" : PySem.Str), ("Step.__neg__" : PySem.Str), defArgs s28, defBody s28, defScope s28, []⟩
def N28 : List Str := [("self" : PySem.Str), ("each" : PySem.Str)]
theorem sc28 : FnScope N28 [("self" : PySem.Str)] (defScope s28) := ⟨rfl, rfl, rfl, by decide +kernel, rfl, by decide +kernel, by decide +kernel⟩
def b_Step___neg__ : M Fl := (sRet (eNd 1 B_Step___init__ [] (aCons (eU (oC1 [(0, B_Ratio___neg__)] pNeg) (eFl [(1, 0)] (eV 0))) (aCons (eLc [1] (itL (eFl [(1, 1)] (eV 0))) (gN 1) tY (eU (oC1 [(0, B_Ratio___neg__)] pNeg) (eV 1))) aNil))))
def B_Step___neg__ : Beh := mkB 1 2 [] b_Step___neg__
/-- Step.__sub__ -/
abbrev s29 : Stmt := ((C8.clsBody (top 34)).getD 4 (.Pass ⟨0, 0, 0, 0⟩))
def d29 : DefZ := ⟨.met ("Step" : PySem.Str) ("__sub__" : PySem.Str), ("__sub__" : PySem.Str), ("Step.__sub__" : PySem.Str), defArgs s29, defBody s29, defScope s29, []⟩
def N29 : List Str := [("self" : PySem.Str), ("other" : PySem.Str)]
theorem sc29 : FnScope N29 [("self" : PySem.Str), ("other" : PySem.Str)] (defScope s29) := ⟨rfl, rfl, rfl, by decide +kernel, rfl, by decide +kernel, by decide +kernel⟩
def b_Step___sub__ : M Fl := (sSeq (sEx (eCd B_need_step [] (aCons (eV 1) (aCons (eK (.str "other")) aNil)))) (sRet (eB (oW [(1, B_Step___add__)] ["int"] [0, 1] pAdd) (eV 0) (eU (oC1 [(1, B_Step___neg__)] pNeg) (eV 1)))))
def B_Step___sub__ : Beh := mkB 2 2 [] b_Step___sub__
/-- Ratio.__eq__ -/
abbrev s30 : Stmt := ((C8.clsBody (top 24)).getD 10 (.Pass ⟨0, 0, 0, 0⟩))
def d30 : DefZ := ⟨.met ("Ratio" : PySem.Str) ("__eq__" : PySem.Str), ("__eq__" : PySem.Str), ("Ratio.__eq__" : PySem.Str), defArgs s30, defBody s30, defScope s30, []⟩
def N30 : List Str := [("self" : PySem.Str), ("other" : PySem.Str)]
theorem sc30 : FnScope N30 [("self" : PySem.Str), ("other" : PySem.Str)] (defScope s30) := ⟨rfl, rfl, rfl, by decide +kernel, rfl, by decide +kernel, by decide +kernel⟩
def b_Ratio___eq__ : M Fl := (sSeq (sIf (tV (eIsi (kO [(0, true), (1, false)]) (eV 1))) (sRet (eAnd (eB (oP pEq) (eFl [(0, 0)] (eV 0)) (eFl [(0, 0)] (eV 1))) (eB (oP pEq) (eFl [(0, 1)] (eV 0)) (eFl [(0, 1)] (eV 1))))) sNil) (sRet (eAnd (eCd B_is_integer [] (aCons (eV 1) aNil)) (eAnd (eB (oP pEq) (eFl [(0, 1)] (eV 0)) (eK (.int 1))) (eB (oP pEq) (eFl [(0, 0)] (eV 0)) (eV 1))))))
def B_Ratio___eq__ : Beh := mkB 2 2 [] b_Ratio___eq__
/-- Step.__eq__ -/
abbrev s31 : Stmt := ((C8.clsBody (top 34)).getD 7 (.Pass ⟨0, 0, 0, 0⟩))
def d31 : DefZ := ⟨.met ("Step" : PySem.Str) ("__eq__" : PySem.Str), ("__eq__" : PySem.Str), ("Step.__eq__" : PySem.Str), defArgs s31, defBody s31, defScope s31, []⟩
def N31 : List Str := [("self" : PySem.Str), ("other" : PySem.Str)]
theorem sc31 : FnScope N31 [("self" : PySem.Str), ("other" : PySem.Str)] (defScope s31) := ⟨rfl, rfl, rfl, by decide +kernel, rfl, by decide +kernel, by decide +kernel⟩
def b_Step___eq__ : M Fl := (sRet (eAnd (eIsi (kO [(0, false), (1, true)]) (eV 1)) (eAnd (eB (oET [(0, B_Ratio___eq__)] ["int"] [0, 1]) (eFl [(1, 0)] (eV 0)) (eFl [(1, 0)] (eV 1))) (eB (oET [(0, B_Ratio___eq__)] ["int"] [0, 1]) (eFl [(1, 1)] (eV 0)) (eFl [(1, 1)] (eV 1))))))
def B_Step___eq__ : Beh := mkB 2 2 [] b_Step___eq__
/-- Step.__mul__ -/
abbrev s32 : Stmt := ((C8.clsBody (top 34)).getD 5 (.Pass ⟨0, 0, 0, 0⟩))
def d32 : DefZ := ⟨.met ("Step" : PySem.Str) ("__mul__" : PySem.Str), ("__mul__" : PySem.Str), ("Step.__mul__" : PySem.Str), defArgs s32, defBody s32, defScope s32, []⟩
def N32 : List Str := [("self" : PySem.Str), ("other" : PySem.Str), ("each" : PySem.Str)]
theorem sc32 : FnScope N32 [("self" : PySem.Str), ("other" : PySem.Str)] (defScope s32) := ⟨rfl, rfl, rfl, by decide +kernel, rfl, by decide +kernel, by decide +kernel⟩
def b_Step___mul__ : M Fl := (sSeq (sIf (tNo (tV (eCd B_is_ratio [] (aCons (eV 1) aNil)))) sNo sNil) (sRet (eNd 1 B_Step___init__ [] (aCons (eB (oW [(0, B_Ratio___mul__)] ["int"] [0, 1] pMul) (eFl [(1, 0)] (eV 0)) (eV 1)) (aCons (eLc [2] (itL (eFl [(1, 1)] (eV 0))) (gN 2) tY (eB (oW [(0, B_Ratio___mul__)] ["int"] [0, 1] pMul) (eV 2) (eV 1))) aNil)))))
def B_Step___mul__ : Beh := mkB 2 3 [] b_Step___mul__
/-- product_of -/
abbrev s33 : Stmt := (top 35)
def d33 : DefZ := ⟨.glo ("product_of" : PySem.Str), ("product_of" : PySem.Str), ("product_of" : PySem.Str), defArgs s33, defBody s33, defScope s33, []⟩
def N33 : List Str := [("one" : PySem.Str), ("other" : PySem.Str)]
theorem sc33 : FnScope N33 [("one" : PySem.Str), ("other" : PySem.Str)] (defScope s33) := ⟨rfl, rfl, rfl, by decide +kernel, rfl, by decide +kernel, by decide +kernel⟩
def b_product_of : M Fl := (sSeq (sEx (eCd B_need_step [] (aCons (eV 0) (aCons (eK (.str "one")) aNil)))) (sSeq (sEx (eCd B_need_step [] (aCons (eV 1) (aCons (eK (.str "other")) aNil)))) (sSeq (sEx (eCd B_need_axes [] (aCons (eV 0) (aCons (eV 1) aNil)))) (sRet (eCd B_product_at [] (aCons (eV 0) (aCons (eV 1) aNil)))))))
def B_product_of : Beh := mkB 2 2 [] b_product_of
/-- _law_sums_right -/
abbrev s34 : Stmt := (top 47)
def d34 : DefZ := ⟨.glo ("_law_sums_right" : PySem.Str), ("_law_sums_right" : PySem.Str), ("_law_sums_right" : PySem.Str), defArgs s34, defBody s34, defScope s34, []⟩
def N34 : List Str := [("_law_sack_here" : PySem.Str), ("_law_one" : PySem.Str), ("_law_other" : PySem.Str), ("_law_mine" : PySem.Str), ("_law_low" : PySem.Str), ("_law_its" : PySem.Str), ("_law_under" : PySem.Str), ("_law_here" : PySem.Str), ("_law_there" : PySem.Str), ("_law_plus" : PySem.Str), ("_law_less" : PySem.Str), ("_law_top" : PySem.Str), ("_law_parts" : PySem.Str), ("_law_many" : PySem.Str), ("_law_left" : PySem.Str), ("_law_right" : PySem.Str), ("_law_number" : PySem.Str)]
theorem sc34 : FnScope N34 [("_law_sack_here" : PySem.Str), ("_law_one" : PySem.Str), ("_law_other" : PySem.Str)] (defScope s34) := ⟨rfl, rfl, rfl, by decide +kernel, rfl, by decide +kernel, by decide +kernel⟩
def b__law_sums_right : M Fl := (sSeq (sTg (gT [(gT [(gN 3), (gN 4)]), (gT [(gN 5), (gN 6)])]) (eN pTup (aCons (eV 1) (aCons (eV 2) aNil)))) (sSeq (sPar [gN 7, gN 8] (aCons (eCd B__law_made [] (aCons (eV 1) aNil)) (aCons (eCd B__law_made [] (aCons (eV 2) aNil)) aNil))) (sSeq (sAs 9 (eLc [14, 15] (itN pZip (aCons (eV 3) (aCons (eV 5) aNil))) (gT [(gN 14), (gN 15)]) tY (eB (oW [(1, B_Step___add__)] ["int"] [0, 1] pAdd) (eB (oW [(1, B_Step___mul__)] ["int"] [0, 1] pMul) (eV 14) (eV 6)) (eB (oW [(1, B_Step___mul__)] ["int"] [0, 1] pMul) (eV 15) (eV 4))))) (sSeq (sAs 10 (eLc [14, 15] (itN pZip (aCons (eV 3) (aCons (eV 5) aNil))) (gT [(gN 14), (gN 15)]) tY (eB (oW [(1, B_Step___sub__)] ["int"] [0, 1] pSub) (eB (oW [(1, B_Step___mul__)] ["int"] [0, 1] pMul) (eV 14) (eV 6)) (eB (oW [(1, B_Step___mul__)] ["int"] [0, 1] pMul) (eV 15) (eV 4))))) (sSeq (sIf (tOn (tNo (tV (eCd B__law_step_right [] (aCons (eV 7) (aCons (eV 3) (aCons (eV 4) aNil)))))) (tOn (tNo (tV (eCd B__law_step_right [] (aCons (eB (oW [(1, B_Step___add__)] ["int"] [0, 1] pAdd) (eV 7) (eV 8)) (aCons (eV 9) (aCons (eB (oW [(1, B_Step___mul__)] ["int"] [0, 1] pMul) (eV 4) (eV 6)) aNil)))))) (tNo (tV (eCd B__law_step_right [] (aCons (eB (oW [(1, B_Step___sub__)] ["int"] [0, 1] pSub) (eV 7) (eV 8)) (aCons (eV 10) (aCons (eB (oW [(1, B_Step___mul__)] ["int"] [0, 1] pMul) (eV 4) (eV 6)) aNil)))))))) (sRet (eK (.bl false))) sNil) (sSeq (sIf (tOn (tV (eB (oNW [(0, B_Ratio___eq__), (1, B_Step___eq__)] ["int"] [0, 1] pNe) (eB (oW [(1, B_Step___add__)] ["int"] [0, 1] pAdd) (eV 8) (eV 7)) (eB (oW [(1, B_Step___add__)] ["int"] [0, 1] pAdd) (eV 7) (eV 8)))) (tOn (tNo (tV (eCd B__law_step_right [] (aCons (eU (oC1 [(1, B_Step___neg__)] pNeg) (eV 7)) (aCons (eLc [16] (itL (eV 3)) (gN 16) tY (eU (oC1 [(1, B_Step___neg__)] pNeg) (eV 16))) (aCons (eV 4) aNil)))))) (tV (eB (oNW [(0, B_Ratio___eq__), (1, B_Step___eq__)] ["int"] [0, 1] pNe) (eFl [(1, 4)] (eB (oW [(1, B_Step___sub__)] ["int"] [0, 1] pSub) (eV 7) (eV 7))) (eK (.str "nothing")))))) (sRet (eK (.bl false))) sNil) (sSeq (sIf (tOn (tNo (tV (eCd B__law_is [] (aCons (eCk B_product_of 1 1 [0, 1] [] (aCons (eV 7) aNil) (aCons (eV 8) aNil)) (aCons (eCd B__law_times [] (aCons (eV 3) (aCons (eV 5) aNil))) (aCons (eB (oW [(1, B_Step___mul__)] ["int"] [0, 1] pMul) (eV 4) (eV 6)) aNil)))))) (tV (eB (oNW [(0, B_Ratio___eq__), (1, B_Step___eq__)] ["int"] [0, 1] pNe) (eCd B_product_of [] (aCons (eV 8) (aCons (eV 7) aNil))) (eCd B_product_of [] (aCons (eV 7) (aCons (eV 8) aNil)))))) (sRet (eK (.bl false))) sNil) (sSeq (sTg (gT [(gN 11), (gN 12)]) (eN pTup (aCons (eB (oW [(1, B_Step___sub__)] ["int"] [0, 1] pSub) (eCo B__law_take 0 (aCons (eK (.int 25)) aNil)) (eK (.int 12))) (aCons (eB (oW [(1, B_Step___add__)] ["int"] [0, 1] pAdd) (eK (.int 1)) (eCo B__law_take 0 (aCons (eK (.int 5)) aNil))) aNil)))) (sSeq (sAs 13 (eIf (tOn (tV (eB (oP pGt) (eV 12) (eK (.int 1)))) (tV (eB (oP pEq) (eCo B__law_take 0 (aCons (eK (.int 2)) aNil)) (eK (.int 0))))) (eNd 0 B_Ratio___init__ [] (aCons (eV 11) (aCons (eV 12) aNil))) (eV 11))) (sRet (eCd B__law_step_right [] (aCons (eB (oW [(1, B_Step___mul__)] ["int"] [0, 1] pMul) (eV 7) (eV 13)) (aCons (eLc [16] (itL (eV 3)) (gN 16) tY (eB (oW [(1, B_Step___mul__)] ["int"] [0, 1] pMul) (eV 16) (eV 11))) (aCons (eB (oW [(1, B_Step___mul__)] ["int"] [0, 1] pMul) (eV 4) (eV 12)) aNil))))))))))))))
def B__law_sums_right : Beh := mkB 3 17 [0] b__law_sums_right
/-- _law_shared_right -/
abbrev s35 : Stmt := (top 48)
def d35 : DefZ := ⟨.glo ("_law_shared_right" : PySem.Str), ("_law_shared_right" : PySem.Str), ("_law_shared_right" : PySem.Str), defArgs s35, defBody s35, defScope s35, []⟩
def N35 : List Str := [("_law_one" : PySem.Str), ("_law_other" : PySem.Str), ("_law_third" : PySem.Str), ("_law_here" : PySem.Str), ("_law_there" : PySem.Str), ("_law_beside" : PySem.Str), ("_law_both" : PySem.Str)]
theorem sc35 : FnScope N35 [("_law_one" : PySem.Str), ("_law_other" : PySem.Str), ("_law_third" : PySem.Str)] (defScope s35) := ⟨rfl, rfl, rfl, by decide +kernel, rfl, by decide +kernel, by decide +kernel⟩
def b__law_shared_right : M Fl := (sSeq (sPar [gN 3, gN 4, gN 5] (aCons (eCd B__law_made [] (aCons (eV 0) aNil)) (aCons (eCd B__law_made [] (aCons (eV 1) aNil)) (aCons (eCd B__law_made [] (aCons (eV 2) aNil)) aNil)))) (sSeq (sAs 6 (eB (oW [(0, B_Ratio___add__), (1, B_Step___add__)] ["int"] [0, 1] pAdd) (eCd B_product_of [] (aCons (eV 3) (aCons (eV 5) aNil))) (eCd B_product_of [] (aCons (eV 4) (aCons (eV 5) aNil))))) (sRet (eAnd (eB (oET [(0, B_Ratio___eq__), (1, B_Step___eq__)] ["int"] [0, 1]) (eCd B_product_of [] (aCons (eB (oW [(0, B_Ratio___add__), (1, B_Step___add__)] ["int"] [0, 1] pAdd) (eV 3) (eV 4)) (aCons (eV 5) aNil))) (eV 6)) (eB (oET [(0, B_Ratio___eq__), (1, B_Step___eq__)] ["int"] [0, 1]) (eB (oW [(0, B_Ratio___add__), (1, B_Step___add__)] ["int"] [0, 1] pAdd) (eB (oW [(0, B_Ratio___add__), (1, B_Step___add__)] ["int"] [0, 1] pAdd) (eV 3) (eV 4)) (eV 5)) (eB (oW [(0, B_Ratio___add__), (1, B_Step___add__)] ["int"] [0, 1] pAdd) (eV 3) (eB (oW [(0, B_Ratio___add__), (1, B_Step___add__)] ["int"] [0, 1] pAdd) (eV 4) (eV 5))))))))
def B__law_shared_right : Beh := mkB 3 7 [] b__law_shared_right
/-- Ratio.is_below -/
abbrev s36 : Stmt := ((C8.clsBody (top 24)).getD 14 (.Pass ⟨0, 0, 0, 0⟩))
def d36 : DefZ := ⟨.met ("Ratio" : PySem.Str) ("is_below" : PySem.Str), ("is_below" : PySem.Str), ("Ratio.is_below" : PySem.Str), defArgs s36, defBody s36, defScope s36, []⟩
def N36 : List Str := [("self" : PySem.Str), ("other" : PySem.Str)]
theorem sc36 : FnScope N36 [("self" : PySem.Str), ("other" : PySem.Str)] (defScope s36) := ⟨rfl, rfl, rfl, by decide +kernel, rfl, by decide +kernel, by decide +kernel⟩
def b_Ratio_is_below : M Fl := (sRet (eB (oP pLt) (ePr [(0, B_Ratio_sign)] (eB (oW [(0, B_Ratio___sub__)] ["int"] [0, 1] pSub) (eV 0) (eCd B_ratio_from [] (aCons (eV 1) (aCons (eK (.str "other")) aNil))))) (eK (.int 0))))
def B_Ratio_is_below : Beh := mkB 2 2 [] b_Ratio_is_below
/-- _law_forward -/
abbrev s37 : Stmt := (top 41)
def d37 : DefZ := ⟨.glo ("_law_forward" : PySem.Str), ("_law_forward" : PySem.Str), ("_law_forward" : PySem.Str), defArgs s37, defBody s37, defScope s37, []⟩
def N37 : List Str := [("_law_sack_here" : PySem.Str), ("_law_axes" : PySem.Str), ("_law_fast" : PySem.Str), ("_law_numbers" : PySem.Str), ("_law_bottom" : PySem.Str), ("_law_far" : PySem.Str), ("_law_time" : PySem.Str), ("_law_number" : PySem.Str)]
theorem sc37 : FnScope N37 [("_law_sack_here" : PySem.Str), ("_law_axes" : PySem.Str)] (defScope s37) := ⟨rfl, rfl, rfl, by decide +kernel, rfl, by decide +kernel, by decide +kernel⟩
def b__law_forward : M Fl := (sSeq (sAs 2 (eN pLst (aCons (eN pLst (aCons (eN pLst (aCons (eK (.int 1)) (aCons (eK (.int 1)) aNil))) (aCons (eN pLst (aCons (eK (.int 2)) (aCons (eU (oU pNeg) (eK (.int 2))) aNil))) (aCons (eN pLst (aCons (eK (.int 5)) (aCons (eK (.int 5)) aNil))) aNil)))) (aCons (eN pLst (aCons (eN pLst (aCons (eK (.int 5)) (aCons (eK (.int 3)) (aCons (eK (.int 4)) aNil)))) (aCons (eN pLst (aCons (eK (.int 13)) (aCons (eU (oU pNeg) (eK (.int 5))) (aCons (eK (.int 12)) aNil)))) (aCons (eN pLst (aCons (eK (.int 1)) (aCons (eK (.int 0)) (aCons (eU (oU pNeg) (eK (.int 1))) aNil)))) aNil)))) (aCons (eN pLst (aCons (eN pLst (aCons (eK (.int 3)) (aCons (eK (.int 1)) (aCons (eK (.int 2)) (aCons (eU (oU pNeg) (eK (.int 2))) aNil))))) (aCons (eN pLst (aCons (eK (.int 7)) (aCons (eK (.int 2)) (aCons (eK (.int 3)) (aCons (eK (.int 6)) aNil))))) (aCons (eN pLst (aCons (eK (.int 9)) (aCons (eU (oU pNeg) (eK (.int 4))) (aCons (eK (.int 1)) (aCons (eK (.int 8)) aNil))))) aNil)))) aNil))))) (sSeq (sIf (tV (eB (oP pEq) (eCo B__law_take 0 (aCons (eK (.int 3)) aNil)) (eK (.int 0)))) (sRet (eN pTup (aCons (eCo B__law_of 0 (aCons (eB (oP pIx) (eV 2) (eB (oP pSub) (eV 1) (eK (.int 1)))) aNil)) (aCons (eB (oP pAdd) (eK (.int 1)) (eCo B__law_take 0 (aCons (eK (.int 6)) aNil))) aNil)))) sNil) (sSeq (sTg (gT [(gN 3), (gN 4)]) (eCo B__law_plain 0 (aCons (eV 1) aNil))) (sSeq (sPar [gN 5, gN 6] (aCons (eN pSum (aCons (eLc [7] (itL (eSl (eV 3) (iSo (eK (.int 1))) iNo)) (gN 7) tY (eB (oP pMul) (eV 7) (eV 7))) aNil)) (aCons (eK (.int 1)) aNil))) (sSeq (sWh (tV (eB (oP pLt) (eB (oP pMul) (eV 6) (eV 6)) (eV 5))) (sAs 6 (eB (oP pAdd) (eV 6) (eK (.int 1))))) (sRet (eN pTup (aCons (eB (oP pAdd) (eN pLst (aCons (eB (oP pAdd) (eV 6) (eCo B__law_take 0 (aCons (eK (.int 3)) aNil))) aNil)) (eSl (eV 3) (iSo (eK (.int 1))) iNo)) (aCons (eV 4) aNil)))))))))
def B__law_forward : Beh := mkB 2 8 [0] b__law_forward
/-- _law_forward_right -/
abbrev s38 : Stmt := (top 49)
def d38 : DefZ := ⟨.glo ("_law_forward_right" : PySem.Str), ("_law_forward_right" : PySem.Str), ("_law_forward_right" : PySem.Str), defArgs s38, defBody s38, defScope s38, []⟩
def N38 : List Str := [("_law_sack_here" : PySem.Str), ("_law_axes" : PySem.Str), ("_law_one" : PySem.Str), ("_law_other" : PySem.Str), ("_law_total" : PySem.Str)]
theorem sc38 : FnScope N38 [("_law_sack_here" : PySem.Str), ("_law_axes" : PySem.Str)] (defScope s38) := ⟨rfl, rfl, rfl, by decide +kernel, rfl, by decide +kernel, by decide +kernel⟩
def b__law_forward_right : M Fl := (sSeq (sPar [gN 2, gN 3] (aCons (eCd B__law_made [] (aCons (eCo B__law_forward 0 (aCons (eV 1) aNil)) aNil)) (aCons (eCd B__law_made [] (aCons (eCo B__law_forward 0 (aCons (eV 1) aNil)) aNil)) aNil))) (sSeq (sAs 4 (eB (oW [(0, B_Ratio___add__), (1, B_Step___add__)] ["int"] [0, 1] pAdd) (eV 2) (eV 3))) (sSeq (sIf (tOn (tV (eB (oP pNe) (eFl [(1, 4)] (eV 2)) (eK (.str "forward")))) (tOn (tV (eB (oP pNe) (eFl [(1, 4)] (eU (oC1 [(1, B_Step___neg__)] pNeg) (eV 2))) (eK (.str "backward")))) (tOn (tV (eB (oP pNe) (eFl [(1, 4)] (eV 4)) (eK (.str "forward")))) (tV (eB (oP pNe) (eFl [(1, 4)] (eB (oW [(1, B_Step___sub__)] ["int"] [0, 1] pSub) (eU (oC1 [(1, B_Step___neg__)] pNeg) (eV 2)) (eV 3))) (eK (.str "backward"))))))) (sRet (eK (.bl false))) sNil) (sSeq (sIf (tOn (tV (eMd [(0, B_Ratio_is_below)] [] (eFl [(1, 3)] (eV 4)) (aCons (eB (oW [(0, B_Ratio___add__), (1, B_Step___add__)] ["int"] [0, 1] pAdd) (eFl [(1, 3)] (eV 2)) (eFl [(1, 3)] (eV 3))) aNil))) (tOn (tV (eB (oP pLt) (ePr [(0, B_Ratio_sign)] (eCd B_product_of [] (aCons (eV 2) (aCons (eV 3) aNil)))) (eK (.int 0)))) (tV (eB (oP pGt) (ePr [(0, B_Ratio_sign)] (eCd B_product_of [] (aCons (eV 2) (aCons (eU (oC1 [(1, B_Step___neg__)] pNeg) (eV 3)) aNil)))) (eK (.int 0)))))) (sRet (eK (.bl false))) sNil) (sRet (eOr (eB (oET [(0, B_Ratio___eq__), (1, B_Step___eq__)] ["int"] [0, 1]) (ePr [(0, B_Ratio_sign)] (eCd B_product_of [] (aCons (eV 2) (aCons (eV 3) aNil)))) (eK (.int 1))) (eAnd (eB (oET [(0, B_Ratio___eq__), (1, B_Step___eq__)] ["int"] [0, 1]) (eB (oW [(1, B_Step___mul__)] ["int"] [0, 1] pMul) (eV 2) (eFl [(1, 0)] (eV 3))) (eB (oW [(1, B_Step___mul__)] ["int"] [0, 1] pMul) (eV 3) (eFl [(1, 0)] (eV 2)))) (eB (oET [(0, B_Ratio___eq__), (1, B_Step___eq__)] ["int"] [0, 1]) (eFl [(1, 3)] (eV 2)) (eK (.int 0))))))))))
def B__law_forward_right : Beh := mkB 2 5 [0] b__law_forward_right
/-- law -/
abbrev s39 : Stmt := (top 50)
def d39 : DefZ := ⟨.glo ("law" : PySem.Str), ("law" : PySem.Str), ("law" : PySem.Str), defArgs s39, defBody s39, defScope s39, []⟩
def N39 : List Str := [("_law_script" : PySem.Str), ("_law_sack_here" : PySem.Str), ("_law_lap" : PySem.Str), ("_law_axes" : PySem.Str), ("_law_one" : PySem.Str), ("_law_other" : PySem.Str), ("_law_third" : PySem.Str)]
theorem sc39 : FnScope N39 [("_law_script" : PySem.Str)] (defScope s39) := ⟨rfl, rfl, rfl, by decide +kernel, rfl, by decide +kernel, by decide +kernel⟩
def b_law : M Fl := (sSeq (sAsF 1 (eCd B__law_sack [] (aCons (eV 0) aNil))) (sSeq (sFor (itN pRng (aCons (eK (.int 4)) aNil)) (gN 2) (sSeq (sAs 3 (eB (oP pAdd) (eK (.int 1)) (eCo B__law_take 1 (aCons (eK (.int 3)) aNil)))) (sSeq (sPar [gN 4, gN 5, gN 6] (aCons (eCo B__law_plain 1 (aCons (eV 3) aNil)) (aCons (eCo B__law_plain 1 (aCons (eV 3) aNil)) (aCons (eCo B__law_plain 1 (aCons (eV 3) aNil)) aNil)))) (sSeq (sIf (tV (eB (oP pEq) (eCo B__law_take 1 (aCons (eK (.int 5)) aNil)) (eK (.int 0)))) (sAs 5 (eV 4)) sNil) (sIf (tOn (tNo (tV (eCo B__law_sums_right 1 (aCons (eV 4) (aCons (eV 5) aNil))))) (tOn (tNo (tV (eCd B__law_shared_right [] (aCons (eV 4) (aCons (eV 5) (aCons (eV 6) aNil)))))) (tNo (tV (eCo B__law_forward_right 1 (aCons (eV 3) aNil)))))) (sRet (eK (.bl false))) sNil))))) (sRet (eK (.bl true)))))
def B_law : Beh := mkB 1 7 [] b_law
end Kw

namespace Kw
open PySem PySem.Spec PyProof.Rows L2 Z
def fz : List Fz := [fFree ("int" : PySem.Str),
  fFree ("len" : PySem.Str),
  fFree ("abs" : PySem.Str),
  fGlo ("_law_take" : PySem.Str),
  fGlo ("_law_of" : PySem.Str),
  fFree ("range" : PySem.Str),
  fFree ("isinstance" : PySem.Str),
  fKiO ("Step" : PySem.Str) ("Ratio" : PySem.Str) false,
  fKiO ("Ratio" : PySem.Str) ("Ratio" : PySem.Str) true,
  fGlo ("Ratio" : PySem.Str),
  fKiB ("Ratio" : PySem.Str),
  fFree ("sum" : PySem.Str),
  fFree ("zip" : PySem.Str),
  fGlo ("_law_times" : PySem.Str),
  fKiO ("Step" : PySem.Str) ("Step" : PySem.Str) true,
  fKiO ("Ratio" : PySem.Str) ("Step" : PySem.Str) false,
  fGlo ("Step" : PySem.Str),
  fKiB ("Step" : PySem.Str),
  fGlo ("_law_is" : PySem.Str),
  fFree ("enumerate" : PySem.Str),
  fGlo ("_law_kind" : PySem.Str),
  fKiT ("Step" : PySem.Str) "int",
  fKiT ("Ratio" : PySem.Str) "int",
  fFree ("bool" : PySem.Str),
  fKiT ("Step" : PySem.Str) "bool",
  fKiT ("Ratio" : PySem.Str) "bool",
  fGlo ("is_integer" : PySem.Str),
  fBlt ("gcd" : PySem.Str) "math.gcd",
  fMk ("Ratio" : PySem.Str),
  fGlo ("ratio_from" : PySem.Str),
  fMet ("Ratio" : PySem.Str) ("__neg__" : PySem.Str),
  fBiT ("Ratio" : PySem.Str) ("__add__" : PySem.Str) ("__radd__" : PySem.Str) "int",
  fSub ("Ratio" : PySem.Str) ("Step" : PySem.Str),
  fSf ("Step" : PySem.Str),
  fMet ("Step" : PySem.Str) ("__add__" : PySem.Str),
  fRd ("Step" : PySem.Str) ("__radd__" : PySem.Str),
  fMet ("Ratio" : PySem.Str) ("__add__" : PySem.Str),
  fSf ("Ratio" : PySem.Str),
  fRd ("Ratio" : PySem.Str) ("__radd__" : PySem.Str),
  fFree ("tuple" : PySem.Str),
  fKiT ("Step" : PySem.Str) "tuple",
  fKiT ("Ratio" : PySem.Str) "tuple",
  fFree ("list" : PySem.Str),
  fKiT ("Step" : PySem.Str) "list",
  fKiT ("Ratio" : PySem.Str) "list",
  fGlo ("is_listed" : PySem.Str),
  fFree ("all" : PySem.Str),
  fGlo ("is_ratio" : PySem.Str),
  fGlo ("are_ratios" : PySem.Str),
  fBiT ("Ratio" : PySem.Str) ("__mul__" : PySem.Str) ("__rmul__" : PySem.Str) "int",
  fMet ("Step" : PySem.Str) ("__mul__" : PySem.Str),
  fRd ("Step" : PySem.Str) ("__rmul__" : PySem.Str),
  fMet ("Ratio" : PySem.Str) ("__mul__" : PySem.Str),
  fRd ("Ratio" : PySem.Str) ("__rmul__" : PySem.Str),
  fGlo ("summed" : PySem.Str),
  fBiT ("Ratio" : PySem.Str) ("__sub__" : PySem.Str) ("__rsub__" : PySem.Str) "int",
  fMet ("Step" : PySem.Str) ("__sub__" : PySem.Str),
  fRd ("Step" : PySem.Str) ("__rsub__" : PySem.Str),
  fMet ("Ratio" : PySem.Str) ("__sub__" : PySem.Str),
  fRd ("Ratio" : PySem.Str) ("__rsub__" : PySem.Str),
  fPrp ("Ratio" : PySem.Str) ("sign" : PySem.Str),
  fInt ("MOST_AXES" : PySem.Str) (3),
  fSta ("Ratio" : PySem.Str) ("of" : PySem.Str),
  fGlo ("product_at" : PySem.Str),
  fGlo ("kind_by" : PySem.Str),
  fMk ("Step" : PySem.Str),
  fGlo ("need_step" : PySem.Str),
  fGlo ("need_axes" : PySem.Str),
  fMet ("Step" : PySem.Str) ("__neg__" : PySem.Str),
  fBiT ("Step" : PySem.Str) ("__add__" : PySem.Str) ("__radd__" : PySem.Str) "int",
  fSub ("Step" : PySem.Str) ("Ratio" : PySem.Str),
  fNfT ("Ratio" : PySem.Str) "int",
  fNfO ("Ratio" : PySem.Str) ("Step" : PySem.Str),
  fNfO ("Ratio" : PySem.Str) ("Ratio" : PySem.Str),
  fMet ("Ratio" : PySem.Str) ("__eq__" : PySem.Str),
  fGlo ("_law_made" : PySem.Str),
  fBiT ("Step" : PySem.Str) ("__mul__" : PySem.Str) ("__rmul__" : PySem.Str) "int",
  fBiT ("Step" : PySem.Str) ("__sub__" : PySem.Str) ("__rsub__" : PySem.Str) "int",
  fGlo ("_law_step_right" : PySem.Str),
  fNfT ("Step" : PySem.Str) "int",
  fNfO ("Step" : PySem.Str) ("Step" : PySem.Str),
  fNfO ("Step" : PySem.Str) ("Ratio" : PySem.Str),
  fMet ("Step" : PySem.Str) ("__eq__" : PySem.Str),
  fNe ("Step" : PySem.Str),
  fNe ("Ratio" : PySem.Str),
  fGlo ("product_of" : PySem.Str),
  fGlo ("_law_plain" : PySem.Str),
  fGlo ("_law_forward" : PySem.Str),
  fMet ("Ratio" : PySem.Str) ("is_below" : PySem.Str),
  fGlo ("_law_sack" : PySem.Str),
  fGlo ("_law_sums_right" : PySem.Str),
  fGlo ("_law_shared_right" : PySem.Str),
  fGlo ("_law_forward_right" : PySem.Str),
  fCls ("Ratio" : PySem.Str) [("top" : PySem.Str), ("bottom" : PySem.Str)],
  fTy ("Ratio" : PySem.Str),
  fCls ("Step" : PySem.Str) [("time" : PySem.Str), ("place" : PySem.Str), ("axes" : PySem.Str), ("square" : PySem.Str), ("kind" : PySem.Str)],
  fTy ("Step" : PySem.Str),
  fGlo "law"]
def fn : List DefZ := [d0, d1, d2, d3, d4, d5, d6, d7, d8, d9, d10, d11, d12, d13, d14, d15, d16, d17, d18, d19, d20, d21, d22, d23, d24, d25, d26, d27, d28, d29, d30, d31, d32, d33, d34, d35, d36, d37, d38, d39]
structure Hy (K : PySem.W.Frag) (mg : Str → Option Value) (base : Heap) : Prop where
  c : SaysZ fz fn K
  X0 : K.In base
  G0 : base.Ns mainGlobals mg
theorem clo0 {K : PySem.W.Frag} {mg : Str → Option Value} {base : Heap} (h : Hy K mg base) : Cls (gm K).K ((gm K).cA 0) ∧ ∀ f ∈ [("top" : PySem.Str), ("bottom" : PySem.Str)], NoAttr (gm K).K ((gm K).cA 0) f := noat_all (h.c.fact 93)
theorem co0 {K : PySem.W.Frag} {mg : Str → Option Value} {base : Heap} (h : Hy K mg base) : ClsOk (gm K) 0 := ⟨(clo0 h).1, (show (lay 0).Nodup by decide +kernel), (show ∀ f ∈ lay 0, f ∈ flds by decide +kernel), (clo0 h).2, (show (lay 0).length ≤ 900 by decide)⟩
theorem ty0 {K : PySem.W.Frag} {mg : Str → Option Value} {base : Heap} (h : Hy K mg base) : TyOk (gm K) 0 := ⟨(clo0 h).1, eqF_ok (He.ba (h.c.fact 94)).1, eqF_ok (He.ba (He.ba (h.c.fact 94)).2).1, eqF_ok (He.ba (He.ba (He.ba (h.c.fact 94)).2).2).1, eqF_ok (He.ba (He.ba (He.ba (h.c.fact 94)).2).2).2⟩
theorem clo1 {K : PySem.W.Frag} {mg : Str → Option Value} {base : Heap} (h : Hy K mg base) : Cls (gm K).K ((gm K).cA 1) ∧ ∀ f ∈ [("time" : PySem.Str), ("place" : PySem.Str), ("axes" : PySem.Str), ("square" : PySem.Str), ("kind" : PySem.Str)], NoAttr (gm K).K ((gm K).cA 1) f := noat_all (h.c.fact 95)
theorem co1 {K : PySem.W.Frag} {mg : Str → Option Value} {base : Heap} (h : Hy K mg base) : ClsOk (gm K) 1 := ⟨(clo1 h).1, (show (lay 1).Nodup by decide +kernel), (show ∀ f ∈ lay 1, f ∈ flds by decide +kernel), (clo1 h).2, (show (lay 1).length ≤ 900 by decide)⟩
theorem ty1 {K : PySem.W.Frag} {mg : Str → Option Value} {base : Heap} (h : Hy K mg base) : TyOk (gm K) 1 := ⟨(clo1 h).1, eqF_ok (He.ba (h.c.fact 96)).1, eqF_ok (He.ba (He.ba (h.c.fact 96)).2).1, eqF_ok (He.ba (He.ba (He.ba (h.c.fact 96)).2).2).1, eqF_ok (He.ba (He.ba (He.ba (h.c.fact 96)).2).2).2⟩
theorem ok_0 {P : Program} {w : World} {K : PySem.W.Frag} {mg : Str → Option Value} {base : Heap} (h : Hy K mg base) : ∃ fd, FunD K d0.name d0.qual d0.params d0.body d0.scope (d0.dvs K) [] (d0.wh.ad K) fd ∧ FnF P w (gm K) mg base 2 (d0.wh.ad K) fd [("_law_script" : PySem.Str)] 1 B__law_sack := by
  have m_int : mg ("int" : PySem.Str) = none := He.free_ok h.X0 h.G0 (h.c.fact 0)
  have hN : N0.Nodup := sc0.nd
  obtain ⟨fd, F⟩ := h.c.def_ 0 (d := d0) rfl
  exact ⟨fd, F, def_okF (G := gm K) (N := N0) (k := 1) F sc0 rfl fun cdv A outer s H E hr tk => (f_lst (a_cons (e_lcF (vs := [1]) [(("_law_cell" : PySem.Str), 1)] rfl (i_seq (e_sl (e_var 0) i_no (i_so e_int))) (blkOk_by (by kernel_rfl)) (fun _ _ _ _ _ => (g_to (O2 := []) (g_name 1))) (fun _ _ _ _ _ => pts_no) (fun _ _ _ _ _ => (e_toInt (a_cons (e_var 1) a_nil)))).fz (a_cons e_int (a_cons e_int a_nil))))⟩
theorem ok_1 {P : Program} {w : World} {K : PySem.W.Frag} {mg : Str → Option Value} {base : Heap} (h : Hy K mg base) : ∃ fd, FunD K d1.name d1.qual d1.params d1.body d1.scope (d1.dvs K) [] (d1.wh.ad K) fd ∧ FnB P w (gm K) mg base 2 (d1.wh.ad K) fd [("_law_sack_here" : PySem.Str), ("_law_many" : PySem.Str)] 2 [0] B__law_take := by
  have m_int : mg ("int" : PySem.Str) = none := He.free_ok h.X0 h.G0 (h.c.fact 0)
  have m_len : mg ("len" : PySem.Str) = none := He.free_ok h.X0 h.G0 (h.c.fact 1)
  have m_abs : mg ("abs" : PySem.Str) = none := He.free_ok h.X0 h.G0 (h.c.fact 2)
  have hN : N1.Nodup := sc1.nd
  obtain ⟨fd, F⟩ := h.c.def_ 1 (d := d1) rfl
  exact ⟨fd, F, def_ok (G := gm K) (N := N1) (k := 1) (O' := [0]) F sc1 fun cdv A outer s H E hr tk => (s_cons (s_if (t_cmp o_gt (e_ixO 0 e_int) e_int) (s_cons (s_to (O2 := [0]) (s_set 2 (e_ixO 0 e_int))) (s_cons (s_ix 0 (e_bin o_div (e_toInt (a_cons (e_var 2) a_nil)) (e_var 1)) e_int) (s_one (s_ret (e_bin o_mod (e_toInt (a_cons (e_var 2) a_nil)) (e_var 1)))))) s_nil) (s_cons (s_to (O2 := [0]) (s_set 3 (e_ixO 0 e_int))) (s_cons (s_ix 0 (e_bin o_add (e_var 3) e_int) e_int) (s_cons (s_to (O2 := [0]) (s_set 4 (e_bin o_add (e_bin o_mul e_int (e_var 3)) e_int))) (s_cons (s_if (t_cmp (o_ne hr) (e_ixO 0 e_int) (e_lst a_nil)) (s_one (s_to (O2 := [0]) (s_set 4 (e_ix (e_ixO 0 e_int) (e_bin o_mod (e_toInt (a_cons (e_var 3) a_nil)) (e_len (a_cons (e_ixO 0 e_int) a_nil))))))) s_nil) (s_cons (s_if (t_bo (w_and (t_cmp o_lt (e_var 3) (e_len (a_cons (e_ixO 0 e_int) a_nil))) (w_and1 (t_cmp o_ge (e_abs (a_cons (e_var 4) a_nil)) (e_bin o_pow e_int e_int))))) (s_cons (s_to (O2 := [0]) (s_set 2 (e_bin o_add (e_bin o_mul e_int (e_bin o_sub (e_abs (a_cons (e_var 4) a_nil)) (e_bin o_pow e_int e_int))) (e_toInt (a_cons (e_cmp o_lt (e_var 4) e_int) a_nil))))) (s_cons (s_ix 0 (e_bin o_div (e_toInt (a_cons (e_var 2) a_nil)) (e_var 1)) e_int) (s_one (s_ret (e_bin o_mod (e_toInt (a_cons (e_var 2) a_nil)) (e_var 1)))))) s_nil) (s_cons (s_to (O2 := [0]) (s_set 5 (e_bin o_mod (e_toInt (a_cons (e_bin o_pow (e_bin o_add (e_bin o_add (e_bin o_mod (e_toInt (a_cons (e_var 4) a_nil)) e_int) (e_bin o_mul e_int (e_var 3))) e_int) e_int) a_nil)) e_int))) (s_cons (s_to (O2 := [0]) (s_set 5 (e_bin o_mod (e_toInt (a_cons (e_bin o_pow (e_bin o_add (e_bin o_add (e_bin o_mul (e_var 5) (e_bin o_add (e_bin o_mul e_int (e_var 3)) e_int)) (e_bin o_mul (e_bin o_mul e_int (e_var 3)) (e_var 3))) e_int) e_int) a_nil)) e_int))) (s_one (s_ret (e_bin o_mod (e_toInt (a_cons (e_bin o_div (e_var 5) e_int) a_nil)) (e_var 1))))))))))))⟩
theorem ok_2 {P : Program} {w : World} {K : PySem.W.Frag} {mg : Str → Option Value} {base : Heap} (h : Hy K mg base) : ∃ fd, FunD K d2.name d2.qual d2.params d2.body d2.scope (d2.dvs K) [] (d2.wh.ad K) fd ∧ FnB P w (gm K) mg base 3 (d2.wh.ad K) fd [("_law_sack_here" : PySem.Str), ("_law_some" : PySem.Str)] 2 [0] B__law_of := by
  obtain ⟨fd1, F1, ok1⟩ := ok_1 (P := P) (w := w) h
  have m_len : mg ("len" : PySem.Str) = none := He.free_ok h.X0 h.G0 (h.c.fact 1)
  have g1 : GlOk (gm K) P w mg base 2 ("_law_take" : PySem.Str) 2 [0] B__law_take _ fd1 [("_law_sack_here" : PySem.Str), ("_law_many" : PySem.Str)] := ⟨He.glo_ok h.X0 h.G0 (h.c.fact 3), F1.kp, ok1, ar_of⟩
  have hN : N2.Nodup := sc2.nd
  obtain ⟨fd, F⟩ := h.c.def_ 2 (d := d2) rfl
  exact ⟨fd, F, def_ok (G := gm K) (N := N2) (k := 2) (O' := [0]) F sc2 fun cdv A outer s H E hr tk => (s_one (s_ret (e_ix (e_var 1) (e_callO 0 tk (hr.mono (by decide)) g1 (F1.bindsN (ps := [("_law_sack_here" : PySem.Str), ("_law_many" : PySem.Str)]) fun _ _ _ _ _ _ us hl => match us, hl with | [_, _], _ => rfl) (a_cons (e_len (a_cons (e_var 1) a_nil)) a_nil)))))⟩
theorem ok_3 {P : Program} {w : World} {K : PySem.W.Frag} {mg : Str → Option Value} {base : Heap} (h : Hy K mg base) : ∃ fd, FunD K d3.name d3.qual d3.params d3.body d3.scope (d3.dvs K) [] (d3.wh.ad K) fd ∧ FnB P w (gm K) mg base 4 (d3.wh.ad K) fd [("_law_sack_here" : PySem.Str), ("_law_axes" : PySem.Str)] 2 [0] B__law_plain := by
  obtain ⟨fd2, F2, ok2⟩ := ok_2 (P := P) (w := w) h
  obtain ⟨fd1, F1, ok1⟩ := ok_1 (P := P) (w := w) h
  have g2 : GlOk (gm K) P w mg base 3 ("_law_of" : PySem.Str) 2 [0] B__law_of _ fd2 [("_law_sack_here" : PySem.Str), ("_law_some" : PySem.Str)] := ⟨He.glo_ok h.X0 h.G0 (h.c.fact 4), F2.kp, ok2, ar_of⟩
  have m_range : mg ("range" : PySem.Str) = none := He.free_ok h.X0 h.G0 (h.c.fact 5)
  have g1 : GlOk (gm K) P w mg base 2 ("_law_take" : PySem.Str) 2 [0] B__law_take _ fd1 [("_law_sack_here" : PySem.Str), ("_law_many" : PySem.Str)] := ⟨He.glo_ok h.X0 h.G0 (h.c.fact 3), F1.kp, ok1, ar_of⟩
  have hN : N3.Nodup := sc3.nd
  obtain ⟨fd, F⟩ := h.c.def_ 3 (d := d3) rfl
  exact ⟨fd, F, def_ok (G := gm K) (N := N3) (k := 3) (O' := [0]) F sc3 fun cdv A outer s H E hr tk => (s_cons (s_to (O2 := [0]) (s_set 2 (e_callO 0 tk (hr.mono (by decide)) g2 (F2.bindsN (ps := [("_law_sack_here" : PySem.Str), ("_law_some" : PySem.Str)]) fun _ _ _ _ _ _ us hl => match us, hl with | [_, _], _ => rfl) (a_cons (e_lst (a_cons e_int (a_cons e_int (a_cons e_int a_nil)))) a_nil)))) (s_one (s_ret (e_tup (a_cons (e_lcF (vs := [3]) [(("_law_number" : PySem.Str), 3)] rfl (i_rng1 (a_cons (e_bin o_add (e_var 1) e_int) a_nil)) (blkOk_by (by kernel_rfl)) (fun _ _ _ _ _ => (g_to (O2 := [0]) (g_name 3))) (fun _ _ _ _ _ => pts_no) (fun _ _ _ _ _ => (e_bin o_sub (e_callO 0 takes_blk (hr.mono (by decide)) g1 (F1.bindsN (ps := [("_law_sack_here" : PySem.Str), ("_law_many" : PySem.Str)]) fun _ _ _ _ _ _ us hl => match us, hl with | [_, _], _ => rfl) (a_cons (e_bin o_add (e_bin o_mul e_int (e_var 2)) e_int) a_nil)) (e_var 2)))).fz (a_cons (e_bin o_add e_int (e_callO 0 tk (hr.mono (by decide)) g1 (F1.bindsN (ps := [("_law_sack_here" : PySem.Str), ("_law_many" : PySem.Str)]) fun _ _ _ _ _ _ us hl => match us, hl with | [_, _], _ => rfl) (a_cons e_int a_nil))) a_nil))))))⟩
theorem ok_4 {P : Program} {w : World} {K : PySem.W.Frag} {mg : Str → Option Value} {base : Heap} (h : Hy K mg base) : ∃ fd, FunD K d4.name d4.qual d4.params d4.body d4.scope (d4.dvs K) [] (d4.wh.ad K) fd ∧ FnB P w (gm K) mg base 2 (d4.wh.ad K) fd [("_law_told" : PySem.Str), ("_law_top" : PySem.Str), ("_law_bottom" : PySem.Str)] 3 [] B__law_is := by
  have m_isinstance : mg ("isinstance" : PySem.Str) = none := He.free_ok h.X0 h.G0 (h.c.fact 6)
  have ht_fl_bottom : ∀ c i, List.lookup c [(0, 1)] = some i → ClsOk (gm K) c ∧ ((gm K).lay c)[i]? = some ("bottom" : PySem.Str) := (lk_cons ⟨co0 h, rfl⟩ lk_nil)
  have ht_fl_top : ∀ c i, List.lookup c [(0, 0)] = some i → ClsOk (gm K) c ∧ ((gm K).lay c)[i]? = some ("top" : PySem.Str) := (lk_cons ⟨co0 h, rfl⟩ lk_nil)
  have hN : N4.Nodup := sc4.nd
  obtain ⟨fd, F⟩ := h.c.def_ 4 (d := d4) rfl
  exact ⟨fd, F, def_ok (G := gm K) (N := N4) (k := 1) (O' := []) F sc4 fun cdv A outer s H E hr tk => (s_one (s_ret (e_and (e_isi (e_var 0) (cv_own (He.glo_ok h.X0 h.G0 (h.c.fact 9))) (kn_own (k := 0) [(0, true), (1, false)] (lk_cons ⟨ty0 h, eqF_ok (h.c.fact 8)⟩ (lk_cons ⟨ty1 h, eqF_ok (h.c.fact 7)⟩ lk_nil)) fun m hm => eqF_ok (List.all_eq_true.mp (h.c.fact 10) m hm))) (e_and (e_cmp o_gt (e_fl [(0, 1)] (e_var 0) ht_fl_bottom) e_int) (e_bo1 (e_cmp (o_eq hr) (e_bin o_mul (e_fl [(0, 0)] (e_var 0) ht_fl_top) (e_var 2)) (e_bin o_mul (e_var 1) (e_fl [(0, 1)] (e_var 0) ht_fl_bottom))))))))⟩
theorem ok_5 {P : Program} {w : World} {K : PySem.W.Frag} {mg : Str → Option Value} {base : Heap} (h : Hy K mg base) : ∃ fd, FunD K d5.name d5.qual d5.params d5.body d5.scope (d5.dvs K) [] (d5.wh.ad K) fd ∧ FnB P w (gm K) mg base 2 (d5.wh.ad K) fd [("_law_one" : PySem.Str), ("_law_other" : PySem.Str)] 2 [] B__law_times := by
  have m_sum : mg ("sum" : PySem.Str) = none := He.free_ok h.X0 h.G0 (h.c.fact 11)
  have m_zip : mg ("zip" : PySem.Str) = none := He.free_ok h.X0 h.G0 (h.c.fact 12)
  have hN : N5.Nodup := sc5.nd
  obtain ⟨fd, F⟩ := h.c.def_ 5 (d := d5) rfl
  exact ⟨fd, F, def_ok (G := gm K) (N := N5) (k := 1) (O' := []) F sc5 fun cdv A outer s H E hr tk => (s_one (s_ret (e_bin o_sub (e_bin o_mul (e_ix (e_var 0) e_int) (e_ix (e_var 1) e_int)) (e_sum (a_cons (e_lcF (vs := [2, 3]) [(("_law_mine" : PySem.Str), 2), (("_law_its" : PySem.Str), 3)] rfl (i_zip (a_cons (e_sl (e_var 0) (i_so e_int) i_no) (a_cons (e_sl (e_var 1) (i_so e_int) i_no) a_nil))) (blkOk_by (by kernel_rfl)) (fun _ _ _ _ _ => (g_tup (gs_cons (g_to (O2 := []) (g_name 2)) (gs_cons (g_to (O2 := []) (g_name 3)) gs_nil)))) (fun _ _ _ _ _ => pts_no) (fun _ _ _ _ _ => (e_bin o_mul (e_var 2) (e_var 3)))).fz a_nil)))))⟩
theorem ok_6 {P : Program} {w : World} {K : PySem.W.Frag} {mg : Str → Option Value} {base : Heap} (h : Hy K mg base) : ∃ fd, FunD K d6.name d6.qual d6.params d6.body d6.scope (d6.dvs K) [] (d6.wh.ad K) fd ∧ FnB P w (gm K) mg base 3 (d6.wh.ad K) fd [("_law_numbers" : PySem.Str)] 1 [] B__law_kind := by
  obtain ⟨fd5, F5, ok5⟩ := ok_5 (P := P) (w := w) h
  have g5 : GlOk (gm K) P w mg base 2 ("_law_times" : PySem.Str) 2 [] B__law_times _ fd5 [("_law_one" : PySem.Str), ("_law_other" : PySem.Str)] := ⟨He.glo_ok h.X0 h.G0 (h.c.fact 13), F5.kp, ok5, ar_of⟩
  have hN : N6.Nodup := sc6.nd
  obtain ⟨fd, F⟩ := h.c.def_ 6 (d := d6) rfl
  exact ⟨fd, F, def_ok (G := gm K) (N := N6) (k := 2) (O' := []) F sc6 fun cdv A outer s H E hr tk => (s_cons (s_to (O2 := []) (s_set 1 (e_call tk (hr.mono (by decide)) g5 (F5.bindsN (ps := [("_law_one" : PySem.Str), ("_law_other" : PySem.Str)]) fun _ _ _ _ _ _ us hl => match us, hl with | [_, _], _ => rfl) .nil (fun _ => .nil) (a_cons (e_var 0) (a_cons (e_var 0) a_nil))))) (s_cons (s_if (t_cmp o_lt (e_var 1) e_int) (s_one (s_ret e_str)) s_nil) (s_one (s_ret (e_if (t_cmp (o_eq hr) (e_ix (e_var 0) e_int) e_int) e_str (e_if (t_cmp o_gt (e_ix (e_var 0) e_int) e_int) e_str e_str))))))⟩
theorem ok_7 {P : Program} {w : World} {K : PySem.W.Frag} {mg : Str → Option Value} {base : Heap} (h : Hy K mg base) : ∃ fd, FunD K d7.name d7.qual d7.params d7.body d7.scope (d7.dvs K) [] (d7.wh.ad K) fd ∧ FnB P w (gm K) mg base 4 (d7.wh.ad K) fd [("_law_step" : PySem.Str), ("_law_numbers" : PySem.Str), ("_law_bottom" : PySem.Str)] 3 [] B__law_step_right := by
  obtain ⟨fd4, F4, ok4⟩ := ok_4 (P := P) (w := w) h
  obtain ⟨fd5, F5, ok5⟩ := ok_5 (P := P) (w := w) h
  obtain ⟨fd6, F6, ok6⟩ := ok_6 (P := P) (w := w) h
  have m_isinstance : mg ("isinstance" : PySem.Str) = none := He.free_ok h.X0 h.G0 (h.c.fact 6)
  have g4 : GlOk (gm K) P w mg base 2 ("_law_is" : PySem.Str) 3 [] B__law_is _ fd4 [("_law_told" : PySem.Str), ("_law_top" : PySem.Str), ("_law_bottom" : PySem.Str)] := ⟨He.glo_ok h.X0 h.G0 (h.c.fact 18), F4.kp, ok4, ar_of⟩
  have ht_fl_time : ∀ c i, List.lookup c [(1, 0)] = some i → ClsOk (gm K) c ∧ ((gm K).lay c)[i]? = some ("time" : PySem.Str) := (lk_cons ⟨co1 h, rfl⟩ lk_nil)
  have m_len : mg ("len" : PySem.Str) = none := He.free_ok h.X0 h.G0 (h.c.fact 1)
  have ht_fl_place : ∀ c i, List.lookup c [(1, 1)] = some i → ClsOk (gm K) c ∧ ((gm K).lay c)[i]? = some ("place" : PySem.Str) := (lk_cons ⟨co1 h, rfl⟩ lk_nil)
  have m_enumerate : mg ("enumerate" : PySem.Str) = none := He.free_ok h.X0 h.G0 (h.c.fact 19)
  have ht_fl_square : ∀ c i, List.lookup c [(1, 3)] = some i → ClsOk (gm K) c ∧ ((gm K).lay c)[i]? = some ("square" : PySem.Str) := (lk_cons ⟨co1 h, rfl⟩ lk_nil)
  have g5 : GlOk (gm K) P w mg base 2 ("_law_times" : PySem.Str) 2 [] B__law_times _ fd5 [("_law_one" : PySem.Str), ("_law_other" : PySem.Str)] := ⟨He.glo_ok h.X0 h.G0 (h.c.fact 13), F5.kp, ok5, ar_of⟩
  have ht_fl_kind : ∀ c i, List.lookup c [(1, 4)] = some i → ClsOk (gm K) c ∧ ((gm K).lay c)[i]? = some ("kind" : PySem.Str) := (lk_cons ⟨co1 h, rfl⟩ lk_nil)
  have g6 : GlOk (gm K) P w mg base 3 ("_law_kind" : PySem.Str) 1 [] B__law_kind _ fd6 [("_law_numbers" : PySem.Str)] := ⟨He.glo_ok h.X0 h.G0 (h.c.fact 20), F6.kp, ok6, ar_of⟩
  have hN : N7.Nodup := sc7.nd
  obtain ⟨fd, F⟩ := h.c.def_ 7 (d := d7) rfl
  exact ⟨fd, F, def_ok (G := gm K) (N := N7) (k := 3) (O' := []) F sc7 fun cdv A outer s H E hr tk => (s_cons (s_if (t_bo (w_or (t_not (t_val (e_isi (e_var 0) (cv_own (He.glo_ok h.X0 h.G0 (h.c.fact 16))) (kn_own (k := 1) [(0, false), (1, true)] (lk_cons ⟨ty0 h, eqF_ok (h.c.fact 15)⟩ (lk_cons ⟨ty1 h, eqF_ok (h.c.fact 14)⟩ lk_nil)) fun m hm => eqF_ok (List.all_eq_true.mp (h.c.fact 17) m hm))))) (w_or (t_not (t_val (e_call tk (hr.mono (by decide)) g4 (F4.bindsN (ps := [("_law_told" : PySem.Str), ("_law_top" : PySem.Str), ("_law_bottom" : PySem.Str)]) fun _ _ _ _ _ _ us hl => match us, hl with | [_, _, _], _ => rfl) .nil (fun _ => .nil) (a_cons (e_fl [(1, 0)] (e_var 0) ht_fl_time) (a_cons (e_ix (e_var 1) e_int) (a_cons (e_var 2) a_nil)))))) (w_or1 (t_cmp (o_ne hr) (e_len (a_cons (e_fl [(1, 1)] (e_var 0) ht_fl_place) a_nil)) (e_bin o_sub (e_len (a_cons (e_var 1) a_nil)) e_int)))))) (s_one (s_ret e_bl)) s_nil) (s_cons (s_if (t_cmp (o_ne hr) (e_lcF (vs := [3, 4]) [(("_law_at" : PySem.Str), 3), (("_law_number" : PySem.Str), 4)] rfl (i_enu (a_cons (e_sl (e_var 1) (i_so e_int) i_no) a_nil)) (blkOk_by (by kernel_rfl)) (fun _ _ _ _ _ => (g_tup (gs_cons (g_to (O2 := []) (g_name 3)) (gs_cons (g_to (O2 := []) (g_name 4)) gs_nil)))) (fun _ _ _ _ _ => (pts_1 (t_not (t_val (e_call takes_blk (hr.mono (by decide)) g4 (F4.bindsN (ps := [("_law_told" : PySem.Str), ("_law_top" : PySem.Str), ("_law_bottom" : PySem.Str)]) fun _ _ _ _ _ _ us hl => match us, hl with | [_, _, _], _ => rfl) .nil (fun _ => .nil) (a_cons (e_ix (e_fl [(1, 1)] (e_var 0) ht_fl_place) (e_var 3)) (a_cons (e_var 4) (a_cons (e_var 2) a_nil)))))))) (fun _ _ _ _ _ => (e_var 3))).fz (e_lst a_nil)) (s_one (s_ret e_bl)) s_nil) (s_one (s_ret (e_and (e_call tk (hr.mono (by decide)) g4 (F4.bindsN (ps := [("_law_told" : PySem.Str), ("_law_top" : PySem.Str), ("_law_bottom" : PySem.Str)]) fun _ _ _ _ _ _ us hl => match us, hl with | [_, _, _], _ => rfl) .nil (fun _ => .nil) (a_cons (e_fl [(1, 3)] (e_var 0) ht_fl_square) (a_cons (e_call tk (hr.mono (by decide)) g5 (F5.bindsN (ps := [("_law_one" : PySem.Str), ("_law_other" : PySem.Str)]) fun _ _ _ _ _ _ us hl => match us, hl with | [_, _], _ => rfl) .nil (fun _ => .nil) (a_cons (e_var 1) (a_cons (e_var 1) a_nil))) (a_cons (e_bin o_mul (e_var 2) (e_var 2)) a_nil)))) (e_bo1 (e_cmp (o_eq hr) (e_fl [(1, 4)] (e_var 0) ht_fl_kind) (e_call tk (hr.mono (by decide)) g6 (F6.bindsN (ps := [("_law_numbers" : PySem.Str)]) fun _ _ _ _ _ _ us hl => match us, hl with | [_], _ => rfl) .nil (fun _ => .nil) (a_cons (e_var 1) a_nil)))))))))⟩
theorem ok_8 {P : Program} {w : World} {K : PySem.W.Frag} {mg : Str → Option Value} {base : Heap} (h : Hy K mg base) : ∃ fd, FunD K d8.name d8.qual d8.params d8.body d8.scope (d8.dvs K) [] (d8.wh.ad K) fd ∧ FnB P w (gm K) mg base 2 (d8.wh.ad K) fd [("value" : PySem.Str)] 1 [] B_is_integer := by
  have m_isinstance : mg ("isinstance" : PySem.Str) = none := He.free_ok h.X0 h.G0 (h.c.fact 6)
  have m_int : mg ("int" : PySem.Str) = none := He.free_ok h.X0 h.G0 (h.c.fact 0)
  have m_bool : mg ("bool" : PySem.Str) = none := He.free_ok h.X0 h.G0 (h.c.fact 23)
  have hN : N8.Nodup := sc8.nd
  obtain ⟨fd, F⟩ := h.c.def_ 8 (d := d8) rfl
  exact ⟨fd, F, def_ok (G := gm K) (N := N8) (k := 1) (O' := []) F sc8 fun cdv A outer s H E hr tk => (s_one (s_ret (e_and (e_isi (e_var 0) cv_ty (kn_ty (n := "int") [0, 1] (mem_cons ⟨ty0 h, eqF_ok (h.c.fact 22)⟩ (mem_cons ⟨ty1 h, eqF_ok (h.c.fact 21)⟩ mem_nil)))) (e_bo1 (e_not (e_isi (e_var 0) cv_ty (kn_ty (n := "bool") [0, 1] (mem_cons ⟨ty0 h, eqF_ok (h.c.fact 25)⟩ (mem_cons ⟨ty1 h, eqF_ok (h.c.fact 24)⟩ mem_nil)))))))))⟩
theorem ok_9 {P : Program} {w : World} {K : PySem.W.Frag} {mg : Str → Option Value} {base : Heap} (h : Hy K mg base) : ∃ fd, FunD K d9.name d9.qual d9.params d9.body d9.scope (d9.dvs K) [] (d9.wh.ad K) fd ∧ FnB P w (gm K) mg base 3 (d9.wh.ad K) fd [("self" : PySem.Str), ("top" : PySem.Str), ("bottom" : PySem.Str)] 3 [0] B_Ratio___init__ := by
  obtain ⟨fd8, F8, ok8⟩ := ok_8 (P := P) (w := w) h
  have g8 : GlOk (gm K) P w mg base 2 ("is_integer" : PySem.Str) 1 [] B_is_integer _ fd8 [("value" : PySem.Str)] := ⟨He.glo_ok h.X0 h.G0 (h.c.fact 26), F8.kp, ok8, ar_of⟩
  have ht_fs_top : ∀ c i, List.lookup c [(0, 0)] = some i → ClsOk (gm K) c ∧ ((gm K).lay c)[i]? = some ("top" : PySem.Str) := lk_cons ⟨co0 h, rfl⟩ lk_nil
  have ht_fs_bottom : ∀ c i, List.lookup c [(0, 1)] = some i → ClsOk (gm K) c ∧ ((gm K).lay c)[i]? = some ("bottom" : PySem.Str) := lk_cons ⟨co0 h, rfl⟩ lk_nil
  have hN : N9.Nodup := sc9.nd
  obtain ⟨fd, F⟩ := h.c.def_ 9 (d := d9) rfl
  exact ⟨fd, F, def_ok (G := gm K) (N := N9) (k := 2) (O' := [0]) F sc9 fun cdv A outer s H E hr tk => (s_cons (s_if (t_not (t_val (e_call tk (hr.mono (by decide)) g8 (F8.bindsN (ps := [("value" : PySem.Str)]) fun _ _ _ _ _ _ us hl => match us, hl with | [_], _ => rfl) .nil (fun _ => .nil) (a_cons (e_var 1) a_nil)))) (s_one s_no) s_nil) (s_cons (s_if (t_bo (w_or (t_not (t_val (e_call tk (hr.mono (by decide)) g8 (F8.bindsN (ps := [("value" : PySem.Str)]) fun _ _ _ _ _ _ us hl => match us, hl with | [_], _ => rfl) .nil (fun _ => .nil) (a_cons (e_var 2) a_nil)))) (w_or1 (t_cmp (o_eq hr) (e_var 2) e_int)))) (s_one s_no) s_nil) (s_cons (s_to (O2 := [0]) (s_set 3 (e_if (t_cmp o_gt (e_var 2) e_int) (e_gcd (a_cons (e_var 1) (a_cons (e_var 2) a_nil)) (blt_ok h.X0 h.G0 (h.c.fact 27))) (e_un o_neg (e_gcd (a_cons (e_var 1) (a_cons (e_var 2) a_nil)) (blt_ok h.X0 h.G0 (h.c.fact 27))))))) (s_cons (s_fld 0 [(0, 0)] (e_bin o_div (e_var 1) (e_var 3)) ht_fs_top) (s_one (s_fld 0 [(0, 1)] (e_bin o_div (e_var 2) (e_var 3)) ht_fs_bottom))))))⟩
theorem ok_10 {P : Program} {w : World} {K : PySem.W.Frag} {mg : Str → Option Value} {base : Heap} (h : Hy K mg base) : ∃ fd, FunD K d10.name d10.qual d10.params d10.body d10.scope (d10.dvs K) [] (d10.wh.ad K) fd ∧ FnB P w (gm K) mg base 5 (d10.wh.ad K) fd [("value" : PySem.Str), ("part" : PySem.Str)] 2 [] B_ratio_from := by
  obtain ⟨fd8, F8, ok8⟩ := ok_8 (P := P) (w := w) h
  obtain ⟨fd9, F9, ok9⟩ := ok_9 (P := P) (w := w) h
  have m_isinstance : mg ("isinstance" : PySem.Str) = none := He.free_ok h.X0 h.G0 (h.c.fact 6)
  have g8 : GlOk (gm K) P w mg base 2 ("is_integer" : PySem.Str) 1 [] B_is_integer _ fd8 [("value" : PySem.Str)] := ⟨He.glo_ok h.X0 h.G0 (h.c.fact 26), F8.kp, ok8, ar_of⟩
  have nw9 : NwOk (gm K) P w mg base 3 ("Ratio" : PySem.Str) 0 3 B_Ratio___init__ _ fd9 [("self" : PySem.Str), ("top" : PySem.Str), ("bottom" : PySem.Str)] := ⟨He.glo_ok h.X0 h.G0 (h.c.fact 9), He.mkr_ok (h.c.fact 28), rfl, ok9, ar_of, rfl⟩
  obtain ⟨bd9_2, bd9_2_v, bd9_2_b⟩ := F9.binds1 (ps := [("self" : PySem.Str), ("top" : PySem.Str), ("bottom" : PySem.Str)]) 2 0 (List.cons_ne_nil _ _) rfl fun T kV doc pm an cdv ct us its h1 h2 => ⟨_, rfl, match us, h1, its, h2 with | [_, _], _, [_], _ => rfl⟩
  have hN : N10.Nodup := sc10.nd
  obtain ⟨fd, F⟩ := h.c.def_ 10 (d := d10) rfl
  exact ⟨fd, F, def_ok (G := gm K) (N := N10) (k := 4) (O' := []) F sc10 fun cdv A outer s H E hr tk => (s_cons (s_if (t_val (e_isi (e_var 0) (cv_own (He.glo_ok h.X0 h.G0 (h.c.fact 9))) (kn_own (k := 0) [(0, true), (1, false)] (lk_cons ⟨ty0 h, eqF_ok (h.c.fact 8)⟩ (lk_cons ⟨ty1 h, eqF_ok (h.c.fact 7)⟩ lk_nil)) fun m hm => eqF_ok (List.all_eq_true.mp (h.c.fact 10) m hm)))) (s_one (s_ret (e_var 0))) s_nil) (s_cons (s_if (t_not (t_val (e_call tk (hr.mono (by decide)) g8 (F8.bindsN (ps := [("value" : PySem.Str)]) fun _ _ _ _ _ _ us hl => match us, hl with | [_], _ => rfl) .nil (fun _ => .nil) (a_cons (e_var 0) a_nil)))) (s_one s_no) s_nil) (s_one (s_ret (e_new tk (hr.mono (by decide)) nw9 bd9_2_b bd9_2_v (fun _ => (.cons .int .nil)) (a_cons (e_var 0) a_nil))))))⟩
theorem ok_11 {P : Program} {w : World} {K : PySem.W.Frag} {mg : Str → Option Value} {base : Heap} (h : Hy K mg base) : ∃ fd, FunD K d11.name d11.qual d11.params d11.body d11.scope (d11.dvs K) [] (d11.wh.ad K) fd ∧ FnB P w (gm K) mg base 6 (d11.wh.ad K) fd [("value" : PySem.Str)] 1 [] B_Ratio_of := by
  obtain ⟨fd10, F10, ok10⟩ := ok_10 (P := P) (w := w) h
  have g10 : GlOk (gm K) P w mg base 5 ("ratio_from" : PySem.Str) 2 [] B_ratio_from _ fd10 [("value" : PySem.Str), ("part" : PySem.Str)] := ⟨He.glo_ok h.X0 h.G0 (h.c.fact 29), F10.kp, ok10, ar_of⟩
  have hN : N11.Nodup := sc11.nd
  obtain ⟨fd, F⟩ := h.c.def_ 11 (d := d11) rfl
  exact ⟨fd, F, def_ok (G := gm K) (N := N11) (k := 5) (O' := []) F sc11 fun cdv A outer s H E hr tk => (s_one (s_ret (e_call tk (hr.mono (by decide)) g10 (F10.bindsN (ps := [("value" : PySem.Str), ("part" : PySem.Str)]) fun _ _ _ _ _ _ us hl => match us, hl with | [_, _], _ => rfl) .nil (fun _ => .nil) (a_cons (e_var 0) (a_cons e_str a_nil)))))⟩
theorem ok_12 {P : Program} {w : World} {K : PySem.W.Frag} {mg : Str → Option Value} {base : Heap} (h : Hy K mg base) : ∃ fd, FunD K d12.name d12.qual d12.params d12.body d12.scope (d12.dvs K) [] (d12.wh.ad K) fd ∧ FnB P w (gm K) mg base 6 (d12.wh.ad K) fd [("self" : PySem.Str), ("other" : PySem.Str)] 2 [] B_Ratio___add__ := by
  obtain ⟨fd10, F10, ok10⟩ := ok_10 (P := P) (w := w) h
  obtain ⟨fd9, F9, ok9⟩ := ok_9 (P := P) (w := w) h
  have g10 : GlOk (gm K) P w mg base 5 ("ratio_from" : PySem.Str) 2 [] B_ratio_from _ fd10 [("value" : PySem.Str), ("part" : PySem.Str)] := ⟨He.glo_ok h.X0 h.G0 (h.c.fact 29), F10.kp, ok10, ar_of⟩
  have nw9 : NwOk (gm K) P w mg base 3 ("Ratio" : PySem.Str) 0 3 B_Ratio___init__ _ fd9 [("self" : PySem.Str), ("top" : PySem.Str), ("bottom" : PySem.Str)] := ⟨He.glo_ok h.X0 h.G0 (h.c.fact 9), He.mkr_ok (h.c.fact 28), rfl, ok9, ar_of, rfl⟩
  have ht_fl_top : ∀ c i, List.lookup c [(0, 0)] = some i → ClsOk (gm K) c ∧ ((gm K).lay c)[i]? = some ("top" : PySem.Str) := (lk_cons ⟨co0 h, rfl⟩ lk_nil)
  have ht_fl_bottom : ∀ c i, List.lookup c [(0, 1)] = some i → ClsOk (gm K) c ∧ ((gm K).lay c)[i]? = some ("bottom" : PySem.Str) := (lk_cons ⟨co0 h, rfl⟩ lk_nil)
  obtain ⟨bd9_3, bd9_3_v, bd9_3_b⟩ := F9.binds1 (ps := [("self" : PySem.Str), ("top" : PySem.Str), ("bottom" : PySem.Str)]) 3 1 (List.cons_ne_nil _ _) rfl fun T kV doc pm an cdv ct us its h1 h2 => ⟨_, rfl, match us, h1, its, h2 with | [_, _, _], _, [_], _ => rfl⟩
  have hN : N12.Nodup := sc12.nd
  obtain ⟨fd, F⟩ := h.c.def_ 12 (d := d12) rfl
  exact ⟨fd, F, def_ok (G := gm K) (N := N12) (k := 5) (O' := []) F sc12 fun cdv A outer s H E hr tk => (s_cons (s_to (O2 := []) (s_set 2 (e_call tk (hr.mono (by decide)) g10 (F10.bindsN (ps := [("value" : PySem.Str), ("part" : PySem.Str)]) fun _ _ _ _ _ _ us hl => match us, hl with | [_, _], _ => rfl) .nil (fun _ => .nil) (a_cons (e_var 1) (a_cons e_str a_nil))))) (s_one (s_ret (e_new tk (hr.mono (by decide)) nw9 bd9_3_b bd9_3_v (fun _ => .nil) (a_cons (e_bin o_add (e_bin o_mul (e_fl [(0, 0)] (e_var 0) ht_fl_top) (e_fl [(0, 1)] (e_var 2) ht_fl_bottom)) (e_bin o_mul (e_fl [(0, 0)] (e_var 2) ht_fl_top) (e_fl [(0, 1)] (e_var 0) ht_fl_bottom))) (a_cons (e_bin o_mul (e_fl [(0, 1)] (e_var 0) ht_fl_bottom) (e_fl [(0, 1)] (e_var 2) ht_fl_bottom)) a_nil))))))⟩
theorem ok_13 {P : Program} {w : World} {K : PySem.W.Frag} {mg : Str → Option Value} {base : Heap} (h : Hy K mg base) : ∃ fd, FunD K d13.name d13.qual d13.params d13.body d13.scope (d13.dvs K) [] (d13.wh.ad K) fd ∧ FnB P w (gm K) mg base 5 (d13.wh.ad K) fd [("self" : PySem.Str)] 1 [] B_Ratio___neg__ := by
  obtain ⟨fd9, F9, ok9⟩ := ok_9 (P := P) (w := w) h
  have nw9 : NwOk (gm K) P w mg base 3 ("Ratio" : PySem.Str) 0 3 B_Ratio___init__ _ fd9 [("self" : PySem.Str), ("top" : PySem.Str), ("bottom" : PySem.Str)] := ⟨He.glo_ok h.X0 h.G0 (h.c.fact 9), He.mkr_ok (h.c.fact 28), rfl, ok9, ar_of, rfl⟩
  have ht_fl_top : ∀ c i, List.lookup c [(0, 0)] = some i → ClsOk (gm K) c ∧ ((gm K).lay c)[i]? = some ("top" : PySem.Str) := (lk_cons ⟨co0 h, rfl⟩ lk_nil)
  have ht_fl_bottom : ∀ c i, List.lookup c [(0, 1)] = some i → ClsOk (gm K) c ∧ ((gm K).lay c)[i]? = some ("bottom" : PySem.Str) := (lk_cons ⟨co0 h, rfl⟩ lk_nil)
  obtain ⟨bd9_3, bd9_3_v, bd9_3_b⟩ := F9.binds1 (ps := [("self" : PySem.Str), ("top" : PySem.Str), ("bottom" : PySem.Str)]) 3 1 (List.cons_ne_nil _ _) rfl fun T kV doc pm an cdv ct us its h1 h2 => ⟨_, rfl, match us, h1, its, h2 with | [_, _, _], _, [_], _ => rfl⟩
  have hN : N13.Nodup := sc13.nd
  obtain ⟨fd, F⟩ := h.c.def_ 13 (d := d13) rfl
  exact ⟨fd, F, def_ok (G := gm K) (N := N13) (k := 4) (O' := []) F sc13 fun cdv A outer s H E hr tk => (s_one (s_ret (e_new tk (hr.mono (by decide)) nw9 bd9_3_b bd9_3_v (fun _ => .nil) (a_cons (e_un o_neg (e_fl [(0, 0)] (e_var 0) ht_fl_top)) (a_cons (e_fl [(0, 1)] (e_var 0) ht_fl_bottom) a_nil)))))⟩
theorem ok_14 {P : Program} {w : World} {K : PySem.W.Frag} {mg : Str → Option Value} {base : Heap} (h : Hy K mg base) : ∃ fd, FunD K d14.name d14.qual d14.params d14.body d14.scope (d14.dvs K) [] (d14.wh.ad K) fd ∧ FnB P w (gm K) mg base 7 (d14.wh.ad K) fd [("self" : PySem.Str), ("other" : PySem.Str)] 2 [] B_Ratio___sub__ := by
  obtain ⟨fd10, F10, ok10⟩ := ok_10 (P := P) (w := w) h
  obtain ⟨fd13, F13, ok13⟩ := ok_13 (P := P) (w := w) h
  obtain ⟨fd12, F12, ok12⟩ := ok_12 (P := P) (w := w) h
  have g10 : GlOk (gm K) P w mg base 5 ("ratio_from" : PySem.Str) 2 [] B_ratio_from _ fd10 [("value" : PySem.Str), ("part" : PySem.Str)] := ⟨He.glo_ok h.X0 h.G0 (h.c.fact 29), F10.kp, ok10, ar_of⟩
  have ht_neg : ∀ c B, List.lookup c [(0, B_Ratio___neg__)] = some B → ∃ f fd ps, OwnOk (gm K) P w mg base 5 "__neg__" c B f fd ps 1 := (lk_cons ⟨_, fd13, [("self" : PySem.Str)], (He.meth_ok (h.c.fact 30)).at_, (He.meth_ok (h.c.fact 30)).fn, fn_up ok13 (by decide), F13.bindsN (ps := [("self" : PySem.Str)]) fun _ _ _ _ _ _ us hl => match us, hl with | [_], _ => rfl, ar_of⟩ lk_nil)
  have ht_add : ∀ c B, List.lookup c [(0, B_Ratio___add__)] = some B → (∃ f fd ps, OwnOk (gm K) P w mg base 6 ("__add__" : PySem.Str) c B f fd ps 2) ∧ BinOk (gm K) ("__add__" : PySem.Str) ("__radd__" : PySem.Str) ["int"] [0, 1] c := (lk_cons ⟨⟨_, fd12, [("self" : PySem.Str), ("other" : PySem.Str)], (He.meth_ok (h.c.fact 36)).at_, (He.meth_ok (h.c.fact 36)).fn, fn_up ok12 (by decide), F12.bindsN (ps := [("self" : PySem.Str), ("other" : PySem.Str)]) fun _ _ _ _ _ _ us hl => match us, hl with | [_, _], _ => rfl, ar_of⟩, ⟨(h.c.fact 37), rd_ok (h.c.fact 38), (mem_cons ⟨by decide, biT_ok (h.c.fact 31)⟩ mem_nil), (mem_cons (.inl rfl) (mem_cons (.inr ⟨(sub_ok (h.c.fact 32)).2, (h.c.fact 33), ⟨_, (He.meth_ok (h.c.fact 34)).at_⟩, rd_ok (h.c.fact 35), (sub_ok (h.c.fact 32)).1⟩) mem_nil))⟩⟩ lk_nil)
  have hN : N14.Nodup := sc14.nd
  obtain ⟨fd, F⟩ := h.c.def_ 14 (d := d14) rfl
  exact ⟨fd, F, def_ok (G := gm K) (N := N14) (k := 6) (O' := []) F sc14 fun cdv A outer s H E hr tk => (s_one (s_ret (e_bin (o_bin [(0, B_Ratio___add__)] ["int"] [0, 1] tk (hr.mono (by decide)) o_add ht_add) (e_var 0) (e_un (o_negW [(0, B_Ratio___neg__)] tk (hr.mono (by decide)) o_neg ht_neg) (e_call tk (hr.mono (by decide)) g10 (F10.bindsN (ps := [("value" : PySem.Str), ("part" : PySem.Str)]) fun _ _ _ _ _ _ us hl => match us, hl with | [_, _], _ => rfl) .nil (fun _ => .nil) (a_cons (e_var 1) (a_cons e_str a_nil)))))))⟩
theorem ok_15 {P : Program} {w : World} {K : PySem.W.Frag} {mg : Str → Option Value} {base : Heap} (h : Hy K mg base) : ∃ fd, FunD K d15.name d15.qual d15.params d15.body d15.scope (d15.dvs K) [] (d15.wh.ad K) fd ∧ FnB P w (gm K) mg base 6 (d15.wh.ad K) fd [("self" : PySem.Str), ("other" : PySem.Str)] 2 [] B_Ratio___mul__ := by
  obtain ⟨fd10, F10, ok10⟩ := ok_10 (P := P) (w := w) h
  obtain ⟨fd9, F9, ok9⟩ := ok_9 (P := P) (w := w) h
  have g10 : GlOk (gm K) P w mg base 5 ("ratio_from" : PySem.Str) 2 [] B_ratio_from _ fd10 [("value" : PySem.Str), ("part" : PySem.Str)] := ⟨He.glo_ok h.X0 h.G0 (h.c.fact 29), F10.kp, ok10, ar_of⟩
  have nw9 : NwOk (gm K) P w mg base 3 ("Ratio" : PySem.Str) 0 3 B_Ratio___init__ _ fd9 [("self" : PySem.Str), ("top" : PySem.Str), ("bottom" : PySem.Str)] := ⟨He.glo_ok h.X0 h.G0 (h.c.fact 9), He.mkr_ok (h.c.fact 28), rfl, ok9, ar_of, rfl⟩
  have ht_fl_top : ∀ c i, List.lookup c [(0, 0)] = some i → ClsOk (gm K) c ∧ ((gm K).lay c)[i]? = some ("top" : PySem.Str) := (lk_cons ⟨co0 h, rfl⟩ lk_nil)
  have ht_fl_bottom : ∀ c i, List.lookup c [(0, 1)] = some i → ClsOk (gm K) c ∧ ((gm K).lay c)[i]? = some ("bottom" : PySem.Str) := (lk_cons ⟨co0 h, rfl⟩ lk_nil)
  obtain ⟨bd9_3, bd9_3_v, bd9_3_b⟩ := F9.binds1 (ps := [("self" : PySem.Str), ("top" : PySem.Str), ("bottom" : PySem.Str)]) 3 1 (List.cons_ne_nil _ _) rfl fun T kV doc pm an cdv ct us its h1 h2 => ⟨_, rfl, match us, h1, its, h2 with | [_, _, _], _, [_], _ => rfl⟩
  have hN : N15.Nodup := sc15.nd
  obtain ⟨fd, F⟩ := h.c.def_ 15 (d := d15) rfl
  exact ⟨fd, F, def_ok (G := gm K) (N := N15) (k := 5) (O' := []) F sc15 fun cdv A outer s H E hr tk => (s_cons (s_to (O2 := []) (s_set 2 (e_call tk (hr.mono (by decide)) g10 (F10.bindsN (ps := [("value" : PySem.Str), ("part" : PySem.Str)]) fun _ _ _ _ _ _ us hl => match us, hl with | [_, _], _ => rfl) .nil (fun _ => .nil) (a_cons (e_var 1) (a_cons e_str a_nil))))) (s_one (s_ret (e_new tk (hr.mono (by decide)) nw9 bd9_3_b bd9_3_v (fun _ => .nil) (a_cons (e_bin o_mul (e_fl [(0, 0)] (e_var 0) ht_fl_top) (e_fl [(0, 0)] (e_var 2) ht_fl_top)) (a_cons (e_bin o_mul (e_fl [(0, 1)] (e_var 0) ht_fl_bottom) (e_fl [(0, 1)] (e_var 2) ht_fl_bottom)) a_nil))))))⟩
theorem ok_16 {P : Program} {w : World} {K : PySem.W.Frag} {mg : Str → Option Value} {base : Heap} (h : Hy K mg base) : ∃ fd, FunD K d16.name d16.qual d16.params d16.body d16.scope (d16.dvs K) [] (d16.wh.ad K) fd ∧ FnB P w (gm K) mg base 2 (d16.wh.ad K) fd [("value" : PySem.Str)] 1 [] B_is_listed := by
  have m_isinstance : mg ("isinstance" : PySem.Str) = none := He.free_ok h.X0 h.G0 (h.c.fact 6)
  have m_tuple : mg ("tuple" : PySem.Str) = none := He.free_ok h.X0 h.G0 (h.c.fact 39)
  have m_list : mg ("list" : PySem.Str) = none := He.free_ok h.X0 h.G0 (h.c.fact 42)
  have hN : N16.Nodup := sc16.nd
  obtain ⟨fd, F⟩ := h.c.def_ 16 (d := d16) rfl
  exact ⟨fd, F, def_ok (G := gm K) (N := N16) (k := 1) (O' := []) F sc16 fun cdv A outer s H E hr tk => (s_one (s_ret (e_isT (e_var 0) (cvs_cons cv_ty (kn_ty (n := "list") [0, 1] (mem_cons ⟨ty0 h, eqF_ok (h.c.fact 44)⟩ (mem_cons ⟨ty1 h, eqF_ok (h.c.fact 43)⟩ mem_nil))) (cvs_cons cv_ty (kn_ty (n := "tuple") [0, 1] (mem_cons ⟨ty0 h, eqF_ok (h.c.fact 41)⟩ (mem_cons ⟨ty1 h, eqF_ok (h.c.fact 40)⟩ mem_nil))) cvs_nil)))))⟩
theorem ok_17 {P : Program} {w : World} {K : PySem.W.Frag} {mg : Str → Option Value} {base : Heap} (h : Hy K mg base) : ∃ fd, FunD K d17.name d17.qual d17.params d17.body d17.scope (d17.dvs K) [] (d17.wh.ad K) fd ∧ FnB P w (gm K) mg base 3 (d17.wh.ad K) fd [("value" : PySem.Str)] 1 [] B_is_ratio := by
  obtain ⟨fd8, F8, ok8⟩ := ok_8 (P := P) (w := w) h
  have m_isinstance : mg ("isinstance" : PySem.Str) = none := He.free_ok h.X0 h.G0 (h.c.fact 6)
  have g8 : GlOk (gm K) P w mg base 2 ("is_integer" : PySem.Str) 1 [] B_is_integer _ fd8 [("value" : PySem.Str)] := ⟨He.glo_ok h.X0 h.G0 (h.c.fact 26), F8.kp, ok8, ar_of⟩
  have hN : N17.Nodup := sc17.nd
  obtain ⟨fd, F⟩ := h.c.def_ 17 (d := d17) rfl
  exact ⟨fd, F, def_ok (G := gm K) (N := N17) (k := 2) (O' := []) F sc17 fun cdv A outer s H E hr tk => (s_one (s_ret (e_or (e_isi (e_var 0) (cv_own (He.glo_ok h.X0 h.G0 (h.c.fact 9))) (kn_own (k := 0) [(0, true), (1, false)] (lk_cons ⟨ty0 h, eqF_ok (h.c.fact 8)⟩ (lk_cons ⟨ty1 h, eqF_ok (h.c.fact 7)⟩ lk_nil)) fun m hm => eqF_ok (List.all_eq_true.mp (h.c.fact 10) m hm))) (e_bo1 (e_call tk (hr.mono (by decide)) g8 (F8.bindsN (ps := [("value" : PySem.Str)]) fun _ _ _ _ _ _ us hl => match us, hl with | [_], _ => rfl) .nil (fun _ => .nil) (a_cons (e_var 0) a_nil))))))⟩
theorem ok_18 {P : Program} {w : World} {K : PySem.W.Frag} {mg : Str → Option Value} {base : Heap} (h : Hy K mg base) : ∃ fd, FunD K d18.name d18.qual d18.params d18.body d18.scope (d18.dvs K) [] (d18.wh.ad K) fd ∧ FnB P w (gm K) mg base 4 (d18.wh.ad K) fd [("value" : PySem.Str)] 1 [] B_are_ratios := by
  obtain ⟨fd16, F16, ok16⟩ := ok_16 (P := P) (w := w) h
  obtain ⟨fd17, F17, ok17⟩ := ok_17 (P := P) (w := w) h
  have g16 : GlOk (gm K) P w mg base 2 ("is_listed" : PySem.Str) 1 [] B_is_listed _ fd16 [("value" : PySem.Str)] := ⟨He.glo_ok h.X0 h.G0 (h.c.fact 45), F16.kp, ok16, ar_of⟩
  have m_all : mg ("all" : PySem.Str) = none := He.free_ok h.X0 h.G0 (h.c.fact 46)
  have g17 : GlOk (gm K) P w mg base 3 ("is_ratio" : PySem.Str) 1 [] B_is_ratio _ fd17 [("value" : PySem.Str)] := ⟨He.glo_ok h.X0 h.G0 (h.c.fact 47), F17.kp, ok17, ar_of⟩
  have hN : N18.Nodup := sc18.nd
  obtain ⟨fd, F⟩ := h.c.def_ 18 (d := d18) rfl
  exact ⟨fd, F, def_ok (G := gm K) (N := N18) (k := 3) (O' := []) F sc18 fun cdv A outer s H E hr tk => (s_one (s_ret (e_and (e_call tk (hr.mono (by decide)) g16 (F16.bindsN (ps := [("value" : PySem.Str)]) fun _ _ _ _ _ _ us hl => match us, hl with | [_], _ => rfl) .nil (fun _ => .nil) (a_cons (e_var 0) a_nil)) (e_bo1 (e_all (a_cons (e_lcF (vs := [1]) [(("each" : PySem.Str), 1)] rfl (i_seq (e_var 0)) (blkOk_by (by kernel_rfl)) (fun _ _ _ _ _ => (g_to (O2 := []) (g_name 1))) (fun _ _ _ _ _ => pts_no) (fun _ _ _ _ _ => (e_call takes_blk (hr.mono (by decide)) g17 (F17.bindsN (ps := [("value" : PySem.Str)]) fun _ _ _ _ _ _ us hl => match us, hl with | [_], _ => rfl) .nil (fun _ => .nil) (a_cons (e_var 1) a_nil)))).fz a_nil))))))⟩
theorem ok_19 {P : Program} {w : World} {K : PySem.W.Frag} {mg : Str → Option Value} {base : Heap} (h : Hy K mg base) : ∃ fd, FunD K d19.name d19.qual d19.params d19.body d19.scope (d19.dvs K) [] (d19.wh.ad K) fd ∧ FnB P w (gm K) mg base 7 (d19.wh.ad K) fd [("ratios" : PySem.Str)] 1 [] B_summed := by
  obtain ⟨fd18, F18, ok18⟩ := ok_18 (P := P) (w := w) h
  obtain ⟨fd9, F9, ok9⟩ := ok_9 (P := P) (w := w) h
  obtain ⟨fd12, F12, ok12⟩ := ok_12 (P := P) (w := w) h
  have g18 : GlOk (gm K) P w mg base 4 ("are_ratios" : PySem.Str) 1 [] B_are_ratios _ fd18 [("value" : PySem.Str)] := ⟨He.glo_ok h.X0 h.G0 (h.c.fact 48), F18.kp, ok18, ar_of⟩
  have nw9 : NwOk (gm K) P w mg base 3 ("Ratio" : PySem.Str) 0 3 B_Ratio___init__ _ fd9 [("self" : PySem.Str), ("top" : PySem.Str), ("bottom" : PySem.Str)] := ⟨He.glo_ok h.X0 h.G0 (h.c.fact 9), He.mkr_ok (h.c.fact 28), rfl, ok9, ar_of, rfl⟩
  obtain ⟨bd9_2, bd9_2_v, bd9_2_b⟩ := F9.binds1 (ps := [("self" : PySem.Str), ("top" : PySem.Str), ("bottom" : PySem.Str)]) 2 0 (List.cons_ne_nil _ _) rfl fun T kV doc pm an cdv ct us its h1 h2 => ⟨_, rfl, match us, h1, its, h2 with | [_, _], _, [_], _ => rfl⟩
  have ht_add : ∀ c B, List.lookup c [(0, B_Ratio___add__)] = some B → (∃ f fd ps, OwnOk (gm K) P w mg base 6 ("__add__" : PySem.Str) c B f fd ps 2) ∧ BinOk (gm K) ("__add__" : PySem.Str) ("__radd__" : PySem.Str) ["int"] [0, 1] c := (lk_cons ⟨⟨_, fd12, [("self" : PySem.Str), ("other" : PySem.Str)], (He.meth_ok (h.c.fact 36)).at_, (He.meth_ok (h.c.fact 36)).fn, fn_up ok12 (by decide), F12.bindsN (ps := [("self" : PySem.Str), ("other" : PySem.Str)]) fun _ _ _ _ _ _ us hl => match us, hl with | [_, _], _ => rfl, ar_of⟩, ⟨(h.c.fact 37), rd_ok (h.c.fact 38), (mem_cons ⟨by decide, biT_ok (h.c.fact 31)⟩ mem_nil), (mem_cons (.inl rfl) (mem_cons (.inr ⟨(sub_ok (h.c.fact 32)).2, (h.c.fact 33), ⟨_, (He.meth_ok (h.c.fact 34)).at_⟩, rd_ok (h.c.fact 35), (sub_ok (h.c.fact 32)).1⟩) mem_nil))⟩⟩ lk_nil)
  have hN : N19.Nodup := sc19.nd
  obtain ⟨fd, F⟩ := h.c.def_ 19 (d := d19) rfl
  exact ⟨fd, F, def_ok (G := gm K) (N := N19) (k := 6) (O' := []) F sc19 fun cdv A outer s H E hr tk => (s_cons (s_if (t_not (t_val (e_call tk (hr.mono (by decide)) g18 (F18.bindsN (ps := [("value" : PySem.Str)]) fun _ _ _ _ _ _ us hl => match us, hl with | [_], _ => rfl) .nil (fun _ => .nil) (a_cons (e_var 0) a_nil)))) (s_one s_no) s_nil) (s_cons (s_to (O2 := []) (s_set 1 (e_new tk (hr.mono (by decide)) nw9 bd9_2_b bd9_2_v (fun _ => (.cons .int .nil)) (a_cons e_int a_nil)))) (s_cons (s_for (OL := []) [2] (i_seq (e_var 0)) (g_to (O2 := []) (g_name 2)) (s_one (s_to (O2 := []) (s_set 1 (e_bin (o_bin [(0, B_Ratio___add__)] ["int"] [0, 1] tk (hr.mono (by decide)) o_add ht_add) (e_var 1) (e_var 2))))) (passes_of rfl)) (s_one (s_ret (e_var 1))))))⟩
theorem ok_20 {P : Program} {w : World} {K : PySem.W.Frag} {mg : Str → Option Value} {base : Heap} (h : Hy K mg base) : ∃ fd, FunD K d20.name d20.qual d20.params d20.body d20.scope (d20.dvs K) [] (d20.wh.ad K) fd ∧ FnB P w (gm K) mg base 8 (d20.wh.ad K) fd [("one" : PySem.Str), ("other" : PySem.Str)] 2 [] B_product_at := by
  obtain ⟨fd15, F15, ok15⟩ := ok_15 (P := P) (w := w) h
  obtain ⟨fd19, F19, ok19⟩ := ok_19 (P := P) (w := w) h
  obtain ⟨fd14, F14, ok14⟩ := ok_14 (P := P) (w := w) h
  have ht_fl_time : ∀ c i, List.lookup c [(1, 0)] = some i → ClsOk (gm K) c ∧ ((gm K).lay c)[i]? = some ("time" : PySem.Str) := (lk_cons ⟨co1 h, rfl⟩ lk_nil)
  have ht_mul : ∀ c B, List.lookup c [(0, B_Ratio___mul__)] = some B → (∃ f fd ps, OwnOk (gm K) P w mg base 6 ("__mul__" : PySem.Str) c B f fd ps 2) ∧ BinOk (gm K) ("__mul__" : PySem.Str) ("__rmul__" : PySem.Str) ["int"] [0, 1] c := (lk_cons ⟨⟨_, fd15, [("self" : PySem.Str), ("other" : PySem.Str)], (He.meth_ok (h.c.fact 52)).at_, (He.meth_ok (h.c.fact 52)).fn, fn_up ok15 (by decide), F15.bindsN (ps := [("self" : PySem.Str), ("other" : PySem.Str)]) fun _ _ _ _ _ _ us hl => match us, hl with | [_, _], _ => rfl, ar_of⟩, ⟨(h.c.fact 37), rd_ok (h.c.fact 53), (mem_cons ⟨by decide, biT_ok (h.c.fact 49)⟩ mem_nil), (mem_cons (.inl rfl) (mem_cons (.inr ⟨(sub_ok (h.c.fact 32)).2, (h.c.fact 33), ⟨_, (He.meth_ok (h.c.fact 50)).at_⟩, rd_ok (h.c.fact 51), (sub_ok (h.c.fact 32)).1⟩) mem_nil))⟩⟩ lk_nil)
  have g19 : GlOk (gm K) P w mg base 7 ("summed" : PySem.Str) 1 [] B_summed _ fd19 [("ratios" : PySem.Str)] := ⟨He.glo_ok h.X0 h.G0 (h.c.fact 54), F19.kp, ok19, ar_of⟩
  have m_zip : mg ("zip" : PySem.Str) = none := He.free_ok h.X0 h.G0 (h.c.fact 12)
  have ht_fl_place : ∀ c i, List.lookup c [(1, 1)] = some i → ClsOk (gm K) c ∧ ((gm K).lay c)[i]? = some ("place" : PySem.Str) := (lk_cons ⟨co1 h, rfl⟩ lk_nil)
  have ht_sub : ∀ c B, List.lookup c [(0, B_Ratio___sub__)] = some B → (∃ f fd ps, OwnOk (gm K) P w mg base 7 ("__sub__" : PySem.Str) c B f fd ps 2) ∧ BinOk (gm K) ("__sub__" : PySem.Str) ("__rsub__" : PySem.Str) ["int"] [0, 1] c := (lk_cons ⟨⟨_, fd14, [("self" : PySem.Str), ("other" : PySem.Str)], (He.meth_ok (h.c.fact 58)).at_, (He.meth_ok (h.c.fact 58)).fn, fn_up ok14 (by decide), F14.bindsN (ps := [("self" : PySem.Str), ("other" : PySem.Str)]) fun _ _ _ _ _ _ us hl => match us, hl with | [_, _], _ => rfl, ar_of⟩, ⟨(h.c.fact 37), rd_ok (h.c.fact 59), (mem_cons ⟨by decide, biT_ok (h.c.fact 55)⟩ mem_nil), (mem_cons (.inl rfl) (mem_cons (.inr ⟨(sub_ok (h.c.fact 32)).2, (h.c.fact 33), ⟨_, (He.meth_ok (h.c.fact 56)).at_⟩, rd_ok (h.c.fact 57), (sub_ok (h.c.fact 32)).1⟩) mem_nil))⟩⟩ lk_nil)
  have hN : N20.Nodup := sc20.nd
  obtain ⟨fd, F⟩ := h.c.def_ 20 (d := d20) rfl
  exact ⟨fd, F, def_ok (G := gm K) (N := N20) (k := 7) (O' := []) F sc20 fun cdv A outer s H E hr tk => (s_one (s_ret (e_bin (o_bin [(0, B_Ratio___sub__)] ["int"] [0, 1] tk (hr.mono (by decide)) o_sub ht_sub) (e_bin (o_bin [(0, B_Ratio___mul__)] ["int"] [0, 1] tk (hr.mono (by decide)) o_mul ht_mul) (e_fl [(1, 0)] (e_var 0) ht_fl_time) (e_fl [(1, 0)] (e_var 1) ht_fl_time)) (e_call tk (hr.mono (by decide)) g19 (F19.bindsN (ps := [("ratios" : PySem.Str)]) fun _ _ _ _ _ _ us hl => match us, hl with | [_], _ => rfl) .nil (fun _ => .nil) (a_cons (e_lcF (vs := [2, 3]) [(("mine" : PySem.Str), 2), (("its" : PySem.Str), 3)] rfl (i_zip (a_cons (e_fl [(1, 1)] (e_var 0) ht_fl_place) (a_cons (e_fl [(1, 1)] (e_var 1) ht_fl_place) a_nil))) (blkOk_by (by kernel_rfl)) (fun _ _ _ _ _ => (g_tup (gs_cons (g_to (O2 := []) (g_name 2)) (gs_cons (g_to (O2 := []) (g_name 3)) gs_nil)))) (fun _ _ _ _ _ => pts_no) (fun _ _ _ _ _ => (e_bin (o_bin [(0, B_Ratio___mul__)] ["int"] [0, 1] takes_blk (hr.mono (by decide)) o_mul ht_mul) (e_var 2) (e_var 3)))).fz a_nil)))))⟩
theorem ok_21 {P : Program} {w : World} {K : PySem.W.Frag} {mg : Str → Option Value} {base : Heap} (h : Hy K mg base) : ∃ fd, FunD K d21.name d21.qual d21.params d21.body d21.scope (d21.dvs K) [] (d21.wh.ad K) fd ∧ FnB P w (gm K) mg base 2 (d21.wh.ad K) fd [("self" : PySem.Str)] 1 [] B_Ratio_sign := by
  have m_int : mg ("int" : PySem.Str) = none := He.free_ok h.X0 h.G0 (h.c.fact 0)
  have ht_fl_top : ∀ c i, List.lookup c [(0, 0)] = some i → ClsOk (gm K) c ∧ ((gm K).lay c)[i]? = some ("top" : PySem.Str) := (lk_cons ⟨co0 h, rfl⟩ lk_nil)
  have hN : N21.Nodup := sc21.nd
  obtain ⟨fd, F⟩ := h.c.def_ 21 (d := d21) rfl
  exact ⟨fd, F, def_ok (G := gm K) (N := N21) (k := 1) (O' := []) F sc21 fun cdv A outer s H E hr tk => (s_one (s_ret (e_bin o_sub (e_toInt (a_cons (e_cmp o_gt (e_fl [(0, 0)] (e_var 0) ht_fl_top) e_int) a_nil)) (e_toInt (a_cons (e_cmp o_lt (e_fl [(0, 0)] (e_var 0) ht_fl_top) e_int) a_nil)))))⟩
theorem ok_22 {P : Program} {w : World} {K : PySem.W.Frag} {mg : Str → Option Value} {base : Heap} (h : Hy K mg base) : ∃ fd, FunD K d22.name d22.qual d22.params d22.body d22.scope (d22.dvs K) [] (d22.wh.ad K) fd ∧ FnB P w (gm K) mg base 4 (d22.wh.ad K) fd [("time" : PySem.Str), ("square" : PySem.Str)] 2 [] B_kind_by := by
  obtain ⟨fd21, F21, ok21⟩ := ok_21 (P := P) (w := w) h
  have pr_sign : ∀ c B, List.lookup c [(0, B_Ratio_sign)] = some B → PrOk (gm K) P w mg base 2 c ("sign" : PySem.Str) B := (lk_cons ⟨(clo0 h).1, _, _, fd21, _, prp_ok (h.c.fact 60), ok21, F21.bindsN (ps := [("self" : PySem.Str)]) fun _ _ _ _ _ _ us hl => match us, hl with | [_], _ => rfl⟩ lk_nil)
  have hN : N22.Nodup := sc22.nd
  obtain ⟨fd, F⟩ := h.c.def_ 22 (d := d22) rfl
  exact ⟨fd, F, def_ok (G := gm K) (N := N22) (k := 3) (O' := []) F sc22 fun cdv A outer s H E hr tk => (s_cons (s_if (t_cmp o_lt (e_pr [(0, B_Ratio_sign)] (hr.mono (by decide)) (e_var 1) pr_sign) e_int) (s_one (s_ret e_str)) s_nil) (s_cons (s_if (t_cmp (o_eq hr) (e_pr [(0, B_Ratio_sign)] (hr.mono (by decide)) (e_var 0) pr_sign) e_int) (s_one (s_ret e_str)) s_nil) (s_one (s_ret (e_if (t_cmp o_gt (e_pr [(0, B_Ratio_sign)] (hr.mono (by decide)) (e_var 0) pr_sign) e_int) e_str e_str)))))⟩
theorem ok_23 {P : Program} {w : World} {K : PySem.W.Frag} {mg : Str → Option Value} {base : Heap} (h : Hy K mg base) : ∃ fd, FunD K d23.name d23.qual d23.params d23.body d23.scope (d23.dvs K) [] (d23.wh.ad K) fd ∧ FnB P w (gm K) mg base 9 (d23.wh.ad K) fd [("self" : PySem.Str), ("time" : PySem.Str), ("place" : PySem.Str)] 3 [0] B_Step___init__ := by
  obtain ⟨fd17, F17, ok17⟩ := ok_17 (P := P) (w := w) h
  obtain ⟨fd18, F18, ok18⟩ := ok_18 (P := P) (w := w) h
  obtain ⟨fd11, F11, ok11⟩ := ok_11 (P := P) (w := w) h
  obtain ⟨fd20, F20, ok20⟩ := ok_20 (P := P) (w := w) h
  obtain ⟨fd22, F22, ok22⟩ := ok_22 (P := P) (w := w) h
  have g17 : GlOk (gm K) P w mg base 3 ("is_ratio" : PySem.Str) 1 [] B_is_ratio _ fd17 [("value" : PySem.Str)] := ⟨He.glo_ok h.X0 h.G0 (h.c.fact 47), F17.kp, ok17, ar_of⟩
  have g18 : GlOk (gm K) P w mg base 4 ("are_ratios" : PySem.Str) 1 [] B_are_ratios _ fd18 [("value" : PySem.Str)] := ⟨He.glo_ok h.X0 h.G0 (h.c.fact 48), F18.kp, ok18, ar_of⟩
  have m_len : mg ("len" : PySem.Str) = none := He.free_ok h.X0 h.G0 (h.c.fact 1)
  have st11 : StOk (gm K) P w mg base 6 ("Ratio" : PySem.Str) (He.ga K ("Ratio" : PySem.Str)) ("of" : PySem.Str) 1 B_Ratio_of _ fd11 [("value" : PySem.Str)] := ⟨He.glo_ok h.X0 h.G0 (h.c.fact 9), (sta_ok (h.c.fact 62)).1, (sta_ok (h.c.fact 62)).2.1, (sta_ok (h.c.fact 62)).2.2, F11.kp, ok11, ar_of⟩
  have ht_fs_time : ∀ c i, List.lookup c [(1, 0)] = some i → ClsOk (gm K) c ∧ ((gm K).lay c)[i]? = some ("time" : PySem.Str) := lk_cons ⟨co1 h, rfl⟩ lk_nil
  have m_tuple : mg ("tuple" : PySem.Str) = none := He.free_ok h.X0 h.G0 (h.c.fact 39)
  have ht_fs_place : ∀ c i, List.lookup c [(1, 1)] = some i → ClsOk (gm K) c ∧ ((gm K).lay c)[i]? = some ("place" : PySem.Str) := lk_cons ⟨co1 h, rfl⟩ lk_nil
  have ht_fl_place : ∀ c i, List.lookup c [(1, 1)] = some i → ClsOk (gm K) c ∧ ((gm K).lay c)[i]? = some ("place" : PySem.Str) := (lk_cons ⟨co1 h, rfl⟩ lk_nil)
  have ht_fs_axes : ∀ c i, List.lookup c [(1, 2)] = some i → ClsOk (gm K) c ∧ ((gm K).lay c)[i]? = some ("axes" : PySem.Str) := lk_cons ⟨co1 h, rfl⟩ lk_nil
  have g20 : GlOk (gm K) P w mg base 8 ("product_at" : PySem.Str) 2 [] B_product_at _ fd20 [("one" : PySem.Str), ("other" : PySem.Str)] := ⟨He.glo_ok h.X0 h.G0 (h.c.fact 63), F20.kp, ok20, ar_of⟩
  have ht_fs_square : ∀ c i, List.lookup c [(1, 3)] = some i → ClsOk (gm K) c ∧ ((gm K).lay c)[i]? = some ("square" : PySem.Str) := lk_cons ⟨co1 h, rfl⟩ lk_nil
  have g22 : GlOk (gm K) P w mg base 4 ("kind_by" : PySem.Str) 2 [] B_kind_by _ fd22 [("time" : PySem.Str), ("square" : PySem.Str)] := ⟨He.glo_ok h.X0 h.G0 (h.c.fact 64), F22.kp, ok22, ar_of⟩
  have ht_fl_time : ∀ c i, List.lookup c [(1, 0)] = some i → ClsOk (gm K) c ∧ ((gm K).lay c)[i]? = some ("time" : PySem.Str) := (lk_cons ⟨co1 h, rfl⟩ lk_nil)
  have ht_fl_square : ∀ c i, List.lookup c [(1, 3)] = some i → ClsOk (gm K) c ∧ ((gm K).lay c)[i]? = some ("square" : PySem.Str) := (lk_cons ⟨co1 h, rfl⟩ lk_nil)
  have ht_fs_kind : ∀ c i, List.lookup c [(1, 4)] = some i → ClsOk (gm K) c ∧ ((gm K).lay c)[i]? = some ("kind" : PySem.Str) := lk_cons ⟨co1 h, rfl⟩ lk_nil
  have hN : N23.Nodup := sc23.nd
  obtain ⟨fd, F⟩ := h.c.def_ 23 (d := d23) rfl
  exact ⟨fd, F, def_ok (G := gm K) (N := N23) (k := 8) (O' := [0]) F sc23 fun cdv A outer s H E hr tk => (s_cons (s_if (t_not (t_val (e_call tk (hr.mono (by decide)) g17 (F17.bindsN (ps := [("value" : PySem.Str)]) fun _ _ _ _ _ _ us hl => match us, hl with | [_], _ => rfl) .nil (fun _ => .nil) (a_cons (e_var 1) a_nil)))) (s_one s_no) s_nil) (s_cons (s_if (t_bo (w_or (t_not (t_val (e_call tk (hr.mono (by decide)) g18 (F18.bindsN (ps := [("value" : PySem.Str)]) fun _ _ _ _ _ _ us hl => match us, hl with | [_], _ => rfl) .nil (fun _ => .nil) (a_cons (e_var 2) a_nil)))) (w_or1 (t_not (t_chain o_le o_le e_int (e_len (a_cons (e_var 2) a_nil)) (e_gint (He.int_ok h.X0 h.G0 (h.c.fact 61)))))))) (s_one s_no) s_nil) (s_cons (s_fld 0 [(1, 0)] (e_stat tk (hr.mono (by decide)) st11 (F11.bindsN (ps := [("value" : PySem.Str)]) fun _ _ _ _ _ _ us hl => match us, hl with | [_], _ => rfl) .nil (fun _ => .nil) (a_cons (e_var 1) a_nil)) ht_fs_time) (s_cons (s_fld 0 [(1, 1)] (e_tuple (a_cons (e_lcF (vs := [3]) [(("each" : PySem.Str), 3)] rfl (i_seq (e_var 2)) (blkOk_by (by kernel_rfl)) (fun _ _ _ _ _ => (g_to (O2 := [0]) (g_name 3))) (fun _ _ _ _ _ => pts_no) (fun _ _ _ _ _ => (e_stat takes_blk (hr.mono (by decide)) st11 (F11.bindsN (ps := [("value" : PySem.Str)]) fun _ _ _ _ _ _ us hl => match us, hl with | [_], _ => rfl) .nil (fun _ => .nil) (a_cons (e_var 3) a_nil)))).fz a_nil)) ht_fs_place) (s_cons (s_fld 0 [(1, 2)] (e_len (a_cons (e_fl [(1, 1)] (e_self 0) ht_fl_place) a_nil)) ht_fs_axes) (s_cons (s_fld 0 [(1, 3)] (e_call tk (hr.mono (by decide)) g20 (F20.bindsN (ps := [("one" : PySem.Str), ("other" : PySem.Str)]) fun _ _ _ _ _ _ us hl => match us, hl with | [_, _], _ => rfl) .nil (fun _ => .nil) (a_cons (e_self 0) (a_cons (e_self 0) a_nil))) ht_fs_square) (s_one (s_fld 0 [(1, 4)] (e_call tk (hr.mono (by decide)) g22 (F22.bindsN (ps := [("time" : PySem.Str), ("square" : PySem.Str)]) fun _ _ _ _ _ _ us hl => match us, hl with | [_, _], _ => rfl) .nil (fun _ => .nil) (a_cons (e_fl [(1, 0)] (e_self 0) ht_fl_time) (a_cons (e_fl [(1, 3)] (e_self 0) ht_fl_square) a_nil))) ht_fs_kind))))))))⟩
theorem ok_24 {P : Program} {w : World} {K : PySem.W.Frag} {mg : Str → Option Value} {base : Heap} (h : Hy K mg base) : ∃ fd, FunD K d24.name d24.qual d24.params d24.body d24.scope (d24.dvs K) [] (d24.wh.ad K) fd ∧ FnB P w (gm K) mg base 11 (d24.wh.ad K) fd [("_law_plain_here" : PySem.Str)] 1 [] B__law_made := by
  obtain ⟨fd23, F23, ok23⟩ := ok_23 (P := P) (w := w) h
  obtain ⟨fd9, F9, ok9⟩ := ok_9 (P := P) (w := w) h
  have nw23 : NwOk (gm K) P w mg base 9 ("Step" : PySem.Str) 1 3 B_Step___init__ _ fd23 [("self" : PySem.Str), ("time" : PySem.Str), ("place" : PySem.Str)] := ⟨He.glo_ok h.X0 h.G0 (h.c.fact 16), He.mkr_ok (h.c.fact 65), rfl, ok23, ar_of, rfl⟩
  have nw9 : NwOk (gm K) P w mg base 3 ("Ratio" : PySem.Str) 0 3 B_Ratio___init__ _ fd9 [("self" : PySem.Str), ("top" : PySem.Str), ("bottom" : PySem.Str)] := ⟨He.glo_ok h.X0 h.G0 (h.c.fact 9), He.mkr_ok (h.c.fact 28), rfl, ok9, ar_of, rfl⟩
  obtain ⟨bd9_3, bd9_3_v, bd9_3_b⟩ := F9.binds1 (ps := [("self" : PySem.Str), ("top" : PySem.Str), ("bottom" : PySem.Str)]) 3 1 (List.cons_ne_nil _ _) rfl fun T kV doc pm an cdv ct us its h1 h2 => ⟨_, rfl, match us, h1, its, h2 with | [_, _, _], _, [_], _ => rfl⟩
  have hN : N24.Nodup := sc24.nd
  obtain ⟨fd, F⟩ := h.c.def_ 24 (d := d24) rfl
  exact ⟨fd, F, def_ok (G := gm K) (N := N24) (k := 10) (O' := []) F sc24 fun cdv A outer s H E hr tk => (s_cons (s_asg (vs := [0, 1, 2, 3]) (e_var 0) (g_tup (gs_cons (g_to (O2 := []) (g_name 1)) (gs_cons (g_to (O2 := []) (g_name 2)) gs_nil)))) (s_one (s_ret (e_new tk (hr.mono (by decide)) nw23 (F23.bindsN (ps := [("self" : PySem.Str), ("time" : PySem.Str), ("place" : PySem.Str)]) fun _ _ _ _ _ _ us hl => match us, hl with | [_, _, _], _ => rfl) .nil (fun _ => .nil) (a_cons (e_new tk (hr.mono (by decide)) nw9 bd9_3_b bd9_3_v (fun _ => .nil) (a_cons (e_ix (e_var 1) e_int) (a_cons (e_var 2) a_nil))) (a_cons (e_lcF (vs := [3]) [(("_law_number" : PySem.Str), 3)] rfl (i_seq (e_sl (e_var 1) (i_so e_int) i_no)) (blkOk_by (by kernel_rfl)) (fun _ _ _ _ _ => (g_to (O2 := []) (g_name 3))) (fun _ _ _ _ _ => pts_no) (fun _ _ _ _ _ => (e_new takes_blk (hr.mono (by decide)) nw9 bd9_3_b bd9_3_v (fun _ => .nil) (a_cons (e_var 3) (a_cons (e_var 2) a_nil))))).fz a_nil))))))⟩
theorem ok_25 {P : Program} {w : World} {K : PySem.W.Frag} {mg : Str → Option Value} {base : Heap} (h : Hy K mg base) : ∃ fd, FunD K d25.name d25.qual d25.params d25.body d25.scope (d25.dvs K) [] (d25.wh.ad K) fd ∧ FnB P w (gm K) mg base 2 (d25.wh.ad K) fd [("value" : PySem.Str), ("part" : PySem.Str)] 2 [] B_need_step := by
  have m_isinstance : mg ("isinstance" : PySem.Str) = none := He.free_ok h.X0 h.G0 (h.c.fact 6)
  have hN : N25.Nodup := sc25.nd
  obtain ⟨fd, F⟩ := h.c.def_ 25 (d := d25) rfl
  exact ⟨fd, F, def_ok (G := gm K) (N := N25) (k := 1) (O' := []) F sc25 fun cdv A outer s H E hr tk => (s_one (s_if (t_not (t_val (e_isi (e_var 0) (cv_own (He.glo_ok h.X0 h.G0 (h.c.fact 16))) (kn_own (k := 1) [(0, false), (1, true)] (lk_cons ⟨ty0 h, eqF_ok (h.c.fact 15)⟩ (lk_cons ⟨ty1 h, eqF_ok (h.c.fact 14)⟩ lk_nil)) fun m hm => eqF_ok (List.all_eq_true.mp (h.c.fact 17) m hm))))) (s_one s_no) s_nil))⟩
theorem ok_26 {P : Program} {w : World} {K : PySem.W.Frag} {mg : Str → Option Value} {base : Heap} (h : Hy K mg base) : ∃ fd, FunD K d26.name d26.qual d26.params d26.body d26.scope (d26.dvs K) [] (d26.wh.ad K) fd ∧ FnB P w (gm K) mg base 2 (d26.wh.ad K) fd [("one" : PySem.Str), ("other" : PySem.Str)] 2 [] B_need_axes := by
  have ht_fl_axes : ∀ c i, List.lookup c [(1, 2)] = some i → ClsOk (gm K) c ∧ ((gm K).lay c)[i]? = some ("axes" : PySem.Str) := (lk_cons ⟨co1 h, rfl⟩ lk_nil)
  have hN : N26.Nodup := sc26.nd
  obtain ⟨fd, F⟩ := h.c.def_ 26 (d := d26) rfl
  exact ⟨fd, F, def_ok (G := gm K) (N := N26) (k := 1) (O' := []) F sc26 fun cdv A outer s H E hr tk => (s_one (s_if (t_cmp (o_ne hr) (e_fl [(1, 2)] (e_var 0) ht_fl_axes) (e_fl [(1, 2)] (e_var 1) ht_fl_axes)) (s_one s_no) s_nil))⟩
theorem ok_27 {P : Program} {w : World} {K : PySem.W.Frag} {mg : Str → Option Value} {base : Heap} (h : Hy K mg base) : ∃ fd, FunD K d27.name d27.qual d27.params d27.body d27.scope (d27.dvs K) [] (d27.wh.ad K) fd ∧ FnB P w (gm K) mg base 11 (d27.wh.ad K) fd [("self" : PySem.Str), ("other" : PySem.Str)] 2 [] B_Step___add__ := by
  obtain ⟨fd25, F25, ok25⟩ := ok_25 (P := P) (w := w) h
  obtain ⟨fd26, F26, ok26⟩ := ok_26 (P := P) (w := w) h
  obtain ⟨fd23, F23, ok23⟩ := ok_23 (P := P) (w := w) h
  obtain ⟨fd12, F12, ok12⟩ := ok_12 (P := P) (w := w) h
  have g25 : GlOk (gm K) P w mg base 2 ("need_step" : PySem.Str) 2 [] B_need_step _ fd25 [("value" : PySem.Str), ("part" : PySem.Str)] := ⟨He.glo_ok h.X0 h.G0 (h.c.fact 66), F25.kp, ok25, ar_of⟩
  have g26 : GlOk (gm K) P w mg base 2 ("need_axes" : PySem.Str) 2 [] B_need_axes _ fd26 [("one" : PySem.Str), ("other" : PySem.Str)] := ⟨He.glo_ok h.X0 h.G0 (h.c.fact 67), F26.kp, ok26, ar_of⟩
  have nw23 : NwOk (gm K) P w mg base 9 ("Step" : PySem.Str) 1 3 B_Step___init__ _ fd23 [("self" : PySem.Str), ("time" : PySem.Str), ("place" : PySem.Str)] := ⟨He.glo_ok h.X0 h.G0 (h.c.fact 16), He.mkr_ok (h.c.fact 65), rfl, ok23, ar_of, rfl⟩
  have ht_fl_time : ∀ c i, List.lookup c [(1, 0)] = some i → ClsOk (gm K) c ∧ ((gm K).lay c)[i]? = some ("time" : PySem.Str) := (lk_cons ⟨co1 h, rfl⟩ lk_nil)
  have ht_add : ∀ c B, List.lookup c [(0, B_Ratio___add__)] = some B → (∃ f fd ps, OwnOk (gm K) P w mg base 6 ("__add__" : PySem.Str) c B f fd ps 2) ∧ BinOk (gm K) ("__add__" : PySem.Str) ("__radd__" : PySem.Str) ["int"] [0, 1] c := (lk_cons ⟨⟨_, fd12, [("self" : PySem.Str), ("other" : PySem.Str)], (He.meth_ok (h.c.fact 36)).at_, (He.meth_ok (h.c.fact 36)).fn, fn_up ok12 (by decide), F12.bindsN (ps := [("self" : PySem.Str), ("other" : PySem.Str)]) fun _ _ _ _ _ _ us hl => match us, hl with | [_, _], _ => rfl, ar_of⟩, ⟨(h.c.fact 37), rd_ok (h.c.fact 38), (mem_cons ⟨by decide, biT_ok (h.c.fact 31)⟩ mem_nil), (mem_cons (.inl rfl) (mem_cons (.inr ⟨(sub_ok (h.c.fact 32)).2, (h.c.fact 33), ⟨_, (He.meth_ok (h.c.fact 34)).at_⟩, rd_ok (h.c.fact 35), (sub_ok (h.c.fact 32)).1⟩) mem_nil))⟩⟩ lk_nil)
  have m_zip : mg ("zip" : PySem.Str) = none := He.free_ok h.X0 h.G0 (h.c.fact 12)
  have ht_fl_place : ∀ c i, List.lookup c [(1, 1)] = some i → ClsOk (gm K) c ∧ ((gm K).lay c)[i]? = some ("place" : PySem.Str) := (lk_cons ⟨co1 h, rfl⟩ lk_nil)
  have hN : N27.Nodup := sc27.nd
  obtain ⟨fd, F⟩ := h.c.def_ 27 (d := d27) rfl
  exact ⟨fd, F, def_ok (G := gm K) (N := N27) (k := 10) (O' := []) F sc27 fun cdv A outer s H E hr tk => (s_cons (s_expr (e_call tk (hr.mono (by decide)) g25 (F25.bindsN (ps := [("value" : PySem.Str), ("part" : PySem.Str)]) fun _ _ _ _ _ _ us hl => match us, hl with | [_, _], _ => rfl) .nil (fun _ => .nil) (a_cons (e_var 1) (a_cons e_str a_nil)))) (s_cons (s_expr (e_call tk (hr.mono (by decide)) g26 (F26.bindsN (ps := [("one" : PySem.Str), ("other" : PySem.Str)]) fun _ _ _ _ _ _ us hl => match us, hl with | [_, _], _ => rfl) .nil (fun _ => .nil) (a_cons (e_var 0) (a_cons (e_var 1) a_nil)))) (s_one (s_ret (e_new tk (hr.mono (by decide)) nw23 (F23.bindsN (ps := [("self" : PySem.Str), ("time" : PySem.Str), ("place" : PySem.Str)]) fun _ _ _ _ _ _ us hl => match us, hl with | [_, _, _], _ => rfl) .nil (fun _ => .nil) (a_cons (e_bin (o_bin [(0, B_Ratio___add__)] ["int"] [0, 1] tk (hr.mono (by decide)) o_add ht_add) (e_fl [(1, 0)] (e_var 0) ht_fl_time) (e_fl [(1, 0)] (e_var 1) ht_fl_time)) (a_cons (e_lcF (vs := [2, 3]) [(("mine" : PySem.Str), 2), (("its" : PySem.Str), 3)] rfl (i_zip (a_cons (e_fl [(1, 1)] (e_var 0) ht_fl_place) (a_cons (e_fl [(1, 1)] (e_var 1) ht_fl_place) a_nil))) (blkOk_by (by kernel_rfl)) (fun _ _ _ _ _ => (g_tup (gs_cons (g_to (O2 := []) (g_name 2)) (gs_cons (g_to (O2 := []) (g_name 3)) gs_nil)))) (fun _ _ _ _ _ => pts_no) (fun _ _ _ _ _ => (e_bin (o_bin [(0, B_Ratio___add__)] ["int"] [0, 1] takes_blk (hr.mono (by decide)) o_add ht_add) (e_var 2) (e_var 3)))).fz a_nil)))))))⟩
theorem ok_28 {P : Program} {w : World} {K : PySem.W.Frag} {mg : Str → Option Value} {base : Heap} (h : Hy K mg base) : ∃ fd, FunD K d28.name d28.qual d28.params d28.body d28.scope (d28.dvs K) [] (d28.wh.ad K) fd ∧ FnB P w (gm K) mg base 11 (d28.wh.ad K) fd [("self" : PySem.Str)] 1 [] B_Step___neg__ := by
  obtain ⟨fd23, F23, ok23⟩ := ok_23 (P := P) (w := w) h
  obtain ⟨fd13, F13, ok13⟩ := ok_13 (P := P) (w := w) h
  have nw23 : NwOk (gm K) P w mg base 9 ("Step" : PySem.Str) 1 3 B_Step___init__ _ fd23 [("self" : PySem.Str), ("time" : PySem.Str), ("place" : PySem.Str)] := ⟨He.glo_ok h.X0 h.G0 (h.c.fact 16), He.mkr_ok (h.c.fact 65), rfl, ok23, ar_of, rfl⟩
  have ht_fl_time : ∀ c i, List.lookup c [(1, 0)] = some i → ClsOk (gm K) c ∧ ((gm K).lay c)[i]? = some ("time" : PySem.Str) := (lk_cons ⟨co1 h, rfl⟩ lk_nil)
  have ht_neg : ∀ c B, List.lookup c [(0, B_Ratio___neg__)] = some B → ∃ f fd ps, OwnOk (gm K) P w mg base 5 "__neg__" c B f fd ps 1 := (lk_cons ⟨_, fd13, [("self" : PySem.Str)], (He.meth_ok (h.c.fact 30)).at_, (He.meth_ok (h.c.fact 30)).fn, fn_up ok13 (by decide), F13.bindsN (ps := [("self" : PySem.Str)]) fun _ _ _ _ _ _ us hl => match us, hl with | [_], _ => rfl, ar_of⟩ lk_nil)
  have ht_fl_place : ∀ c i, List.lookup c [(1, 1)] = some i → ClsOk (gm K) c ∧ ((gm K).lay c)[i]? = some ("place" : PySem.Str) := (lk_cons ⟨co1 h, rfl⟩ lk_nil)
  have hN : N28.Nodup := sc28.nd
  obtain ⟨fd, F⟩ := h.c.def_ 28 (d := d28) rfl
  exact ⟨fd, F, def_ok (G := gm K) (N := N28) (k := 10) (O' := []) F sc28 fun cdv A outer s H E hr tk => (s_one (s_ret (e_new tk (hr.mono (by decide)) nw23 (F23.bindsN (ps := [("self" : PySem.Str), ("time" : PySem.Str), ("place" : PySem.Str)]) fun _ _ _ _ _ _ us hl => match us, hl with | [_, _, _], _ => rfl) .nil (fun _ => .nil) (a_cons (e_un (o_negW [(0, B_Ratio___neg__)] tk (hr.mono (by decide)) o_neg ht_neg) (e_fl [(1, 0)] (e_var 0) ht_fl_time)) (a_cons (e_lcF (vs := [1]) [(("each" : PySem.Str), 1)] rfl (i_seq (e_fl [(1, 1)] (e_var 0) ht_fl_place)) (blkOk_by (by kernel_rfl)) (fun _ _ _ _ _ => (g_to (O2 := []) (g_name 1))) (fun _ _ _ _ _ => pts_no) (fun _ _ _ _ _ => (e_un (o_negW [(0, B_Ratio___neg__)] takes_blk (hr.mono (by decide)) o_neg ht_neg) (e_var 1)))).fz a_nil)))))⟩
theorem ok_29 {P : Program} {w : World} {K : PySem.W.Frag} {mg : Str → Option Value} {base : Heap} (h : Hy K mg base) : ∃ fd, FunD K d29.name d29.qual d29.params d29.body d29.scope (d29.dvs K) [] (d29.wh.ad K) fd ∧ FnB P w (gm K) mg base 12 (d29.wh.ad K) fd [("self" : PySem.Str), ("other" : PySem.Str)] 2 [] B_Step___sub__ := by
  obtain ⟨fd25, F25, ok25⟩ := ok_25 (P := P) (w := w) h
  obtain ⟨fd28, F28, ok28⟩ := ok_28 (P := P) (w := w) h
  obtain ⟨fd27, F27, ok27⟩ := ok_27 (P := P) (w := w) h
  have g25 : GlOk (gm K) P w mg base 2 ("need_step" : PySem.Str) 2 [] B_need_step _ fd25 [("value" : PySem.Str), ("part" : PySem.Str)] := ⟨He.glo_ok h.X0 h.G0 (h.c.fact 66), F25.kp, ok25, ar_of⟩
  have ht_neg : ∀ c B, List.lookup c [(1, B_Step___neg__)] = some B → ∃ f fd ps, OwnOk (gm K) P w mg base 11 "__neg__" c B f fd ps 1 := (lk_cons ⟨_, fd28, [("self" : PySem.Str)], (He.meth_ok (h.c.fact 68)).at_, (He.meth_ok (h.c.fact 68)).fn, fn_up ok28 (by decide), F28.bindsN (ps := [("self" : PySem.Str)]) fun _ _ _ _ _ _ us hl => match us, hl with | [_], _ => rfl, ar_of⟩ lk_nil)
  have ht_add : ∀ c B, List.lookup c [(1, B_Step___add__)] = some B → (∃ f fd ps, OwnOk (gm K) P w mg base 11 ("__add__" : PySem.Str) c B f fd ps 2) ∧ BinOk (gm K) ("__add__" : PySem.Str) ("__radd__" : PySem.Str) ["int"] [0, 1] c := (lk_cons ⟨⟨_, fd27, [("self" : PySem.Str), ("other" : PySem.Str)], (He.meth_ok (h.c.fact 34)).at_, (He.meth_ok (h.c.fact 34)).fn, fn_up ok27 (by decide), F27.bindsN (ps := [("self" : PySem.Str), ("other" : PySem.Str)]) fun _ _ _ _ _ _ us hl => match us, hl with | [_, _], _ => rfl, ar_of⟩, ⟨(h.c.fact 33), rd_ok (h.c.fact 35), (mem_cons ⟨by decide, biT_ok (h.c.fact 69)⟩ mem_nil), (mem_cons (.inr ⟨(sub_ok (h.c.fact 70)).2, (h.c.fact 37), ⟨_, (He.meth_ok (h.c.fact 36)).at_⟩, rd_ok (h.c.fact 38), (sub_ok (h.c.fact 70)).1⟩) (mem_cons (.inl rfl) mem_nil))⟩⟩ lk_nil)
  have hN : N29.Nodup := sc29.nd
  obtain ⟨fd, F⟩ := h.c.def_ 29 (d := d29) rfl
  exact ⟨fd, F, def_ok (G := gm K) (N := N29) (k := 11) (O' := []) F sc29 fun cdv A outer s H E hr tk => (s_cons (s_expr (e_call tk (hr.mono (by decide)) g25 (F25.bindsN (ps := [("value" : PySem.Str), ("part" : PySem.Str)]) fun _ _ _ _ _ _ us hl => match us, hl with | [_, _], _ => rfl) .nil (fun _ => .nil) (a_cons (e_var 1) (a_cons e_str a_nil)))) (s_one (s_ret (e_bin (o_bin [(1, B_Step___add__)] ["int"] [0, 1] tk (hr.mono (by decide)) o_add ht_add) (e_var 0) (e_un (o_negW [(1, B_Step___neg__)] tk (hr.mono (by decide)) o_neg ht_neg) (e_var 1))))))⟩
theorem ok_30 {P : Program} {w : World} {K : PySem.W.Frag} {mg : Str → Option Value} {base : Heap} (h : Hy K mg base) : ∃ fd, FunD K d30.name d30.qual d30.params d30.body d30.scope (d30.dvs K) [] (d30.wh.ad K) fd ∧ FnB P w (gm K) mg base 3 (d30.wh.ad K) fd [("self" : PySem.Str), ("other" : PySem.Str)] 2 [] B_Ratio___eq__ := by
  obtain ⟨fd8, F8, ok8⟩ := ok_8 (P := P) (w := w) h
  have m_isinstance : mg ("isinstance" : PySem.Str) = none := He.free_ok h.X0 h.G0 (h.c.fact 6)
  have ht_fl_top : ∀ c i, List.lookup c [(0, 0)] = some i → ClsOk (gm K) c ∧ ((gm K).lay c)[i]? = some ("top" : PySem.Str) := (lk_cons ⟨co0 h, rfl⟩ lk_nil)
  have ht_fl_bottom : ∀ c i, List.lookup c [(0, 1)] = some i → ClsOk (gm K) c ∧ ((gm K).lay c)[i]? = some ("bottom" : PySem.Str) := (lk_cons ⟨co0 h, rfl⟩ lk_nil)
  have g8 : GlOk (gm K) P w mg base 2 ("is_integer" : PySem.Str) 1 [] B_is_integer _ fd8 [("value" : PySem.Str)] := ⟨He.glo_ok h.X0 h.G0 (h.c.fact 26), F8.kp, ok8, ar_of⟩
  have hN : N30.Nodup := sc30.nd
  obtain ⟨fd, F⟩ := h.c.def_ 30 (d := d30) rfl
  exact ⟨fd, F, def_ok (G := gm K) (N := N30) (k := 2) (O' := []) F sc30 fun cdv A outer s H E hr tk => (s_cons (s_if (t_val (e_isi (e_var 1) (cv_own (He.glo_ok h.X0 h.G0 (h.c.fact 9))) (kn_own (k := 0) [(0, true), (1, false)] (lk_cons ⟨ty0 h, eqF_ok (h.c.fact 8)⟩ (lk_cons ⟨ty1 h, eqF_ok (h.c.fact 7)⟩ lk_nil)) fun m hm => eqF_ok (List.all_eq_true.mp (h.c.fact 10) m hm)))) (s_one (s_ret (e_and (e_cmp (o_eq hr) (e_fl [(0, 0)] (e_var 0) ht_fl_top) (e_fl [(0, 0)] (e_var 1) ht_fl_top)) (e_bo1 (e_cmp (o_eq hr) (e_fl [(0, 1)] (e_var 0) ht_fl_bottom) (e_fl [(0, 1)] (e_var 1) ht_fl_bottom)))))) s_nil) (s_one (s_ret (e_and (e_call tk (hr.mono (by decide)) g8 (F8.bindsN (ps := [("value" : PySem.Str)]) fun _ _ _ _ _ _ us hl => match us, hl with | [_], _ => rfl) .nil (fun _ => .nil) (a_cons (e_var 1) a_nil)) (e_and (e_cmp (o_eq hr) (e_fl [(0, 1)] (e_var 0) ht_fl_bottom) e_int) (e_bo1 (e_cmp (o_eq hr) (e_fl [(0, 0)] (e_var 0) ht_fl_top) (e_var 1))))))))⟩
theorem ok_31 {P : Program} {w : World} {K : PySem.W.Frag} {mg : Str → Option Value} {base : Heap} (h : Hy K mg base) : ∃ fd, FunD K d31.name d31.qual d31.params d31.body d31.scope (d31.dvs K) [] (d31.wh.ad K) fd ∧ FnB P w (gm K) mg base 5 (d31.wh.ad K) fd [("self" : PySem.Str), ("other" : PySem.Str)] 2 [] B_Step___eq__ := by
  obtain ⟨fd30, F30, ok30⟩ := ok_30 (P := P) (w := w) h
  have m_isinstance : mg ("isinstance" : PySem.Str) = none := He.free_ok h.X0 h.G0 (h.c.fact 6)
  have ht_fl_time : ∀ c i, List.lookup c [(1, 0)] = some i → ClsOk (gm K) c ∧ ((gm K).lay c)[i]? = some ("time" : PySem.Str) := (lk_cons ⟨co1 h, rfl⟩ lk_nil)
  have ht_eq : ∀ c B, List.lookup c [(0, B_Ratio___eq__)] = some B → (∃ f fd ps, OwnOk (gm K) P w mg base 3 ("__eq__" : PySem.Str) c B f fd ps 2) ∧ CmpOk (gm K) ["int"] [0, 1] c := (lk_cons ⟨⟨_, fd30, [("self" : PySem.Str), ("other" : PySem.Str)], (He.meth_ok (h.c.fact 74)).at_, (He.meth_ok (h.c.fact 74)).fn, fn_up ok30 (by decide), F30.bindsN (ps := [("self" : PySem.Str), ("other" : PySem.Str)]) fun _ _ _ _ _ _ us hl => match us, hl with | [_, _], _ => rfl, ar_of⟩, ⟨(mem_cons ⟨by decide, (h.c.fact 71)⟩ mem_nil), (mem_cons (h.c.fact 73) (mem_cons (h.c.fact 72) mem_nil))⟩⟩ lk_nil)
  have ht_fl_place : ∀ c i, List.lookup c [(1, 1)] = some i → ClsOk (gm K) c ∧ ((gm K).lay c)[i]? = some ("place" : PySem.Str) := (lk_cons ⟨co1 h, rfl⟩ lk_nil)
  have hN : N31.Nodup := sc31.nd
  obtain ⟨fd, F⟩ := h.c.def_ 31 (d := d31) rfl
  exact ⟨fd, F, def_ok (G := gm K) (N := N31) (k := 4) (O' := []) F sc31 fun cdv A outer s H E hr tk => (s_one (s_ret (e_and (e_isi (e_var 1) (cv_own (He.glo_ok h.X0 h.G0 (h.c.fact 16))) (kn_own (k := 1) [(0, false), (1, true)] (lk_cons ⟨ty0 h, eqF_ok (h.c.fact 15)⟩ (lk_cons ⟨ty1 h, eqF_ok (h.c.fact 14)⟩ lk_nil)) fun m hm => eqF_ok (List.all_eq_true.mp (h.c.fact 17) m hm))) (e_and (e_cmp (o_eqT [(0, B_Ratio___eq__)] ["int"] [0, 1] tk (hr.mono (by decide)) ht_eq) (e_fl [(1, 0)] (e_var 0) ht_fl_time) (e_fl [(1, 0)] (e_var 1) ht_fl_time)) (e_bo1 (e_cmp (o_eqT [(0, B_Ratio___eq__)] ["int"] [0, 1] tk (hr.mono (by decide)) ht_eq) (e_fl [(1, 1)] (e_var 0) ht_fl_place) (e_fl [(1, 1)] (e_var 1) ht_fl_place)))))))⟩
theorem ok_32 {P : Program} {w : World} {K : PySem.W.Frag} {mg : Str → Option Value} {base : Heap} (h : Hy K mg base) : ∃ fd, FunD K d32.name d32.qual d32.params d32.body d32.scope (d32.dvs K) [] (d32.wh.ad K) fd ∧ FnB P w (gm K) mg base 11 (d32.wh.ad K) fd [("self" : PySem.Str), ("other" : PySem.Str)] 2 [] B_Step___mul__ := by
  obtain ⟨fd17, F17, ok17⟩ := ok_17 (P := P) (w := w) h
  obtain ⟨fd23, F23, ok23⟩ := ok_23 (P := P) (w := w) h
  obtain ⟨fd15, F15, ok15⟩ := ok_15 (P := P) (w := w) h
  have g17 : GlOk (gm K) P w mg base 3 ("is_ratio" : PySem.Str) 1 [] B_is_ratio _ fd17 [("value" : PySem.Str)] := ⟨He.glo_ok h.X0 h.G0 (h.c.fact 47), F17.kp, ok17, ar_of⟩
  have nw23 : NwOk (gm K) P w mg base 9 ("Step" : PySem.Str) 1 3 B_Step___init__ _ fd23 [("self" : PySem.Str), ("time" : PySem.Str), ("place" : PySem.Str)] := ⟨He.glo_ok h.X0 h.G0 (h.c.fact 16), He.mkr_ok (h.c.fact 65), rfl, ok23, ar_of, rfl⟩
  have ht_fl_time : ∀ c i, List.lookup c [(1, 0)] = some i → ClsOk (gm K) c ∧ ((gm K).lay c)[i]? = some ("time" : PySem.Str) := (lk_cons ⟨co1 h, rfl⟩ lk_nil)
  have ht_mul : ∀ c B, List.lookup c [(0, B_Ratio___mul__)] = some B → (∃ f fd ps, OwnOk (gm K) P w mg base 6 ("__mul__" : PySem.Str) c B f fd ps 2) ∧ BinOk (gm K) ("__mul__" : PySem.Str) ("__rmul__" : PySem.Str) ["int"] [0, 1] c := (lk_cons ⟨⟨_, fd15, [("self" : PySem.Str), ("other" : PySem.Str)], (He.meth_ok (h.c.fact 52)).at_, (He.meth_ok (h.c.fact 52)).fn, fn_up ok15 (by decide), F15.bindsN (ps := [("self" : PySem.Str), ("other" : PySem.Str)]) fun _ _ _ _ _ _ us hl => match us, hl with | [_, _], _ => rfl, ar_of⟩, ⟨(h.c.fact 37), rd_ok (h.c.fact 53), (mem_cons ⟨by decide, biT_ok (h.c.fact 49)⟩ mem_nil), (mem_cons (.inl rfl) (mem_cons (.inr ⟨(sub_ok (h.c.fact 32)).2, (h.c.fact 33), ⟨_, (He.meth_ok (h.c.fact 50)).at_⟩, rd_ok (h.c.fact 51), (sub_ok (h.c.fact 32)).1⟩) mem_nil))⟩⟩ lk_nil)
  have ht_fl_place : ∀ c i, List.lookup c [(1, 1)] = some i → ClsOk (gm K) c ∧ ((gm K).lay c)[i]? = some ("place" : PySem.Str) := (lk_cons ⟨co1 h, rfl⟩ lk_nil)
  have hN : N32.Nodup := sc32.nd
  obtain ⟨fd, F⟩ := h.c.def_ 32 (d := d32) rfl
  exact ⟨fd, F, def_ok (G := gm K) (N := N32) (k := 10) (O' := []) F sc32 fun cdv A outer s H E hr tk => (s_cons (s_if (t_not (t_val (e_call tk (hr.mono (by decide)) g17 (F17.bindsN (ps := [("value" : PySem.Str)]) fun _ _ _ _ _ _ us hl => match us, hl with | [_], _ => rfl) .nil (fun _ => .nil) (a_cons (e_var 1) a_nil)))) (s_one s_no) s_nil) (s_one (s_ret (e_new tk (hr.mono (by decide)) nw23 (F23.bindsN (ps := [("self" : PySem.Str), ("time" : PySem.Str), ("place" : PySem.Str)]) fun _ _ _ _ _ _ us hl => match us, hl with | [_, _, _], _ => rfl) .nil (fun _ => .nil) (a_cons (e_bin (o_bin [(0, B_Ratio___mul__)] ["int"] [0, 1] tk (hr.mono (by decide)) o_mul ht_mul) (e_fl [(1, 0)] (e_var 0) ht_fl_time) (e_var 1)) (a_cons (e_lcF (vs := [2]) [(("each" : PySem.Str), 2)] rfl (i_seq (e_fl [(1, 1)] (e_var 0) ht_fl_place)) (blkOk_by (by kernel_rfl)) (fun _ _ _ _ _ => (g_to (O2 := []) (g_name 2))) (fun _ _ _ _ _ => pts_no) (fun _ _ _ _ _ => (e_bin (o_bin [(0, B_Ratio___mul__)] ["int"] [0, 1] takes_blk (hr.mono (by decide)) o_mul ht_mul) (e_var 2) (e_var 1)))).fz a_nil))))))⟩
theorem ok_33 {P : Program} {w : World} {K : PySem.W.Frag} {mg : Str → Option Value} {base : Heap} (h : Hy K mg base) : ∃ fd, FunD K d33.name d33.qual d33.params d33.body d33.scope (d33.dvs K) [] (d33.wh.ad K) fd ∧ FnB P w (gm K) mg base 9 (d33.wh.ad K) fd [("one" : PySem.Str), ("other" : PySem.Str)] 2 [] B_product_of := by
  obtain ⟨fd25, F25, ok25⟩ := ok_25 (P := P) (w := w) h
  obtain ⟨fd26, F26, ok26⟩ := ok_26 (P := P) (w := w) h
  obtain ⟨fd20, F20, ok20⟩ := ok_20 (P := P) (w := w) h
  have g25 : GlOk (gm K) P w mg base 2 ("need_step" : PySem.Str) 2 [] B_need_step _ fd25 [("value" : PySem.Str), ("part" : PySem.Str)] := ⟨He.glo_ok h.X0 h.G0 (h.c.fact 66), F25.kp, ok25, ar_of⟩
  have g26 : GlOk (gm K) P w mg base 2 ("need_axes" : PySem.Str) 2 [] B_need_axes _ fd26 [("one" : PySem.Str), ("other" : PySem.Str)] := ⟨He.glo_ok h.X0 h.G0 (h.c.fact 67), F26.kp, ok26, ar_of⟩
  have g20 : GlOk (gm K) P w mg base 8 ("product_at" : PySem.Str) 2 [] B_product_at _ fd20 [("one" : PySem.Str), ("other" : PySem.Str)] := ⟨He.glo_ok h.X0 h.G0 (h.c.fact 63), F20.kp, ok20, ar_of⟩
  have hN : N33.Nodup := sc33.nd
  obtain ⟨fd, F⟩ := h.c.def_ 33 (d := d33) rfl
  exact ⟨fd, F, def_ok (G := gm K) (N := N33) (k := 8) (O' := []) F sc33 fun cdv A outer s H E hr tk => (s_cons (s_expr (e_call tk (hr.mono (by decide)) g25 (F25.bindsN (ps := [("value" : PySem.Str), ("part" : PySem.Str)]) fun _ _ _ _ _ _ us hl => match us, hl with | [_, _], _ => rfl) .nil (fun _ => .nil) (a_cons (e_var 0) (a_cons e_str a_nil)))) (s_cons (s_expr (e_call tk (hr.mono (by decide)) g25 (F25.bindsN (ps := [("value" : PySem.Str), ("part" : PySem.Str)]) fun _ _ _ _ _ _ us hl => match us, hl with | [_, _], _ => rfl) .nil (fun _ => .nil) (a_cons (e_var 1) (a_cons e_str a_nil)))) (s_cons (s_expr (e_call tk (hr.mono (by decide)) g26 (F26.bindsN (ps := [("one" : PySem.Str), ("other" : PySem.Str)]) fun _ _ _ _ _ _ us hl => match us, hl with | [_, _], _ => rfl) .nil (fun _ => .nil) (a_cons (e_var 0) (a_cons (e_var 1) a_nil)))) (s_one (s_ret (e_call tk (hr.mono (by decide)) g20 (F20.bindsN (ps := [("one" : PySem.Str), ("other" : PySem.Str)]) fun _ _ _ _ _ _ us hl => match us, hl with | [_, _], _ => rfl) .nil (fun _ => .nil) (a_cons (e_var 0) (a_cons (e_var 1) a_nil))))))))⟩
theorem ok_34 {P : Program} {w : World} {K : PySem.W.Frag} {mg : Str → Option Value} {base : Heap} (h : Hy K mg base) : ∃ fd, FunD K d34.name d34.qual d34.params d34.body d34.scope (d34.dvs K) [] (d34.wh.ad K) fd ∧ FnB P w (gm K) mg base 13 (d34.wh.ad K) fd [("_law_sack_here" : PySem.Str), ("_law_one" : PySem.Str), ("_law_other" : PySem.Str)] 3 [0] B__law_sums_right := by
  obtain ⟨fd24, F24, ok24⟩ := ok_24 (P := P) (w := w) h
  obtain ⟨fd32, F32, ok32⟩ := ok_32 (P := P) (w := w) h
  obtain ⟨fd27, F27, ok27⟩ := ok_27 (P := P) (w := w) h
  obtain ⟨fd29, F29, ok29⟩ := ok_29 (P := P) (w := w) h
  obtain ⟨fd7, F7, ok7⟩ := ok_7 (P := P) (w := w) h
  obtain ⟨fd30, F30, ok30⟩ := ok_30 (P := P) (w := w) h
  obtain ⟨fd31, F31, ok31⟩ := ok_31 (P := P) (w := w) h
  obtain ⟨fd28, F28, ok28⟩ := ok_28 (P := P) (w := w) h
  obtain ⟨fd4, F4, ok4⟩ := ok_4 (P := P) (w := w) h
  obtain ⟨fd33, F33, ok33⟩ := ok_33 (P := P) (w := w) h
  obtain ⟨fd5, F5, ok5⟩ := ok_5 (P := P) (w := w) h
  obtain ⟨fd1, F1, ok1⟩ := ok_1 (P := P) (w := w) h
  obtain ⟨fd9, F9, ok9⟩ := ok_9 (P := P) (w := w) h
  have g24 : GlOk (gm K) P w mg base 11 ("_law_made" : PySem.Str) 1 [] B__law_made _ fd24 [("_law_plain_here" : PySem.Str)] := ⟨He.glo_ok h.X0 h.G0 (h.c.fact 75), F24.kp, ok24, ar_of⟩
  have m_zip : mg ("zip" : PySem.Str) = none := He.free_ok h.X0 h.G0 (h.c.fact 12)
  have ht_mul : ∀ c B, List.lookup c [(1, B_Step___mul__)] = some B → (∃ f fd ps, OwnOk (gm K) P w mg base 11 ("__mul__" : PySem.Str) c B f fd ps 2) ∧ BinOk (gm K) ("__mul__" : PySem.Str) ("__rmul__" : PySem.Str) ["int"] [0, 1] c := (lk_cons ⟨⟨_, fd32, [("self" : PySem.Str), ("other" : PySem.Str)], (He.meth_ok (h.c.fact 50)).at_, (He.meth_ok (h.c.fact 50)).fn, fn_up ok32 (by decide), F32.bindsN (ps := [("self" : PySem.Str), ("other" : PySem.Str)]) fun _ _ _ _ _ _ us hl => match us, hl with | [_, _], _ => rfl, ar_of⟩, ⟨(h.c.fact 33), rd_ok (h.c.fact 51), (mem_cons ⟨by decide, biT_ok (h.c.fact 76)⟩ mem_nil), (mem_cons (.inr ⟨(sub_ok (h.c.fact 70)).2, (h.c.fact 37), ⟨_, (He.meth_ok (h.c.fact 52)).at_⟩, rd_ok (h.c.fact 53), (sub_ok (h.c.fact 70)).1⟩) (mem_cons (.inl rfl) mem_nil))⟩⟩ lk_nil)
  have ht_add : ∀ c B, List.lookup c [(1, B_Step___add__)] = some B → (∃ f fd ps, OwnOk (gm K) P w mg base 11 ("__add__" : PySem.Str) c B f fd ps 2) ∧ BinOk (gm K) ("__add__" : PySem.Str) ("__radd__" : PySem.Str) ["int"] [0, 1] c := (lk_cons ⟨⟨_, fd27, [("self" : PySem.Str), ("other" : PySem.Str)], (He.meth_ok (h.c.fact 34)).at_, (He.meth_ok (h.c.fact 34)).fn, fn_up ok27 (by decide), F27.bindsN (ps := [("self" : PySem.Str), ("other" : PySem.Str)]) fun _ _ _ _ _ _ us hl => match us, hl with | [_, _], _ => rfl, ar_of⟩, ⟨(h.c.fact 33), rd_ok (h.c.fact 35), (mem_cons ⟨by decide, biT_ok (h.c.fact 69)⟩ mem_nil), (mem_cons (.inr ⟨(sub_ok (h.c.fact 70)).2, (h.c.fact 37), ⟨_, (He.meth_ok (h.c.fact 36)).at_⟩, rd_ok (h.c.fact 38), (sub_ok (h.c.fact 70)).1⟩) (mem_cons (.inl rfl) mem_nil))⟩⟩ lk_nil)
  have ht_sub : ∀ c B, List.lookup c [(1, B_Step___sub__)] = some B → (∃ f fd ps, OwnOk (gm K) P w mg base 12 ("__sub__" : PySem.Str) c B f fd ps 2) ∧ BinOk (gm K) ("__sub__" : PySem.Str) ("__rsub__" : PySem.Str) ["int"] [0, 1] c := (lk_cons ⟨⟨_, fd29, [("self" : PySem.Str), ("other" : PySem.Str)], (He.meth_ok (h.c.fact 56)).at_, (He.meth_ok (h.c.fact 56)).fn, fn_up ok29 (by decide), F29.bindsN (ps := [("self" : PySem.Str), ("other" : PySem.Str)]) fun _ _ _ _ _ _ us hl => match us, hl with | [_, _], _ => rfl, ar_of⟩, ⟨(h.c.fact 33), rd_ok (h.c.fact 57), (mem_cons ⟨by decide, biT_ok (h.c.fact 77)⟩ mem_nil), (mem_cons (.inr ⟨(sub_ok (h.c.fact 70)).2, (h.c.fact 37), ⟨_, (He.meth_ok (h.c.fact 58)).at_⟩, rd_ok (h.c.fact 59), (sub_ok (h.c.fact 70)).1⟩) (mem_cons (.inl rfl) mem_nil))⟩⟩ lk_nil)
  have g7 : GlOk (gm K) P w mg base 4 ("_law_step_right" : PySem.Str) 3 [] B__law_step_right _ fd7 [("_law_step" : PySem.Str), ("_law_numbers" : PySem.Str), ("_law_bottom" : PySem.Str)] := ⟨He.glo_ok h.X0 h.G0 (h.c.fact 78), F7.kp, ok7, ar_of⟩
  have ht_eqN : ∀ c B, List.lookup c [(0, B_Ratio___eq__), (1, B_Step___eq__)] = some B → (∃ f fd ps, OwnOk (gm K) P w mg base 5 "__eq__" c B f fd ps 2) ∧ CmpOk (gm K) ["int"] [0, 1] c ∧ NeOk (gm K) c := (lk_cons ⟨⟨_, fd30, [("self" : PySem.Str), ("other" : PySem.Str)], (He.meth_ok (h.c.fact 74)).at_, (He.meth_ok (h.c.fact 74)).fn, fn_up ok30 (by decide), F30.bindsN (ps := [("self" : PySem.Str), ("other" : PySem.Str)]) fun _ _ _ _ _ _ us hl => match us, hl with | [_, _], _ => rfl, ar_of⟩, ⟨(mem_cons ⟨by decide, (h.c.fact 71)⟩ mem_nil), (mem_cons (h.c.fact 73) (mem_cons (h.c.fact 72) mem_nil))⟩, ⟨eqF_ok (h.c.fact 84), (ty0 h).hm⟩⟩ (lk_cons ⟨⟨_, fd31, [("self" : PySem.Str), ("other" : PySem.Str)], (He.meth_ok (h.c.fact 82)).at_, (He.meth_ok (h.c.fact 82)).fn, fn_up ok31 (by decide), F31.bindsN (ps := [("self" : PySem.Str), ("other" : PySem.Str)]) fun _ _ _ _ _ _ us hl => match us, hl with | [_, _], _ => rfl, ar_of⟩, ⟨(mem_cons ⟨by decide, (h.c.fact 79)⟩ mem_nil), (mem_cons (h.c.fact 81) (mem_cons (h.c.fact 80) mem_nil))⟩, ⟨eqF_ok (h.c.fact 83), (ty1 h).hm⟩⟩ lk_nil))
  have ht_neg : ∀ c B, List.lookup c [(1, B_Step___neg__)] = some B → ∃ f fd ps, OwnOk (gm K) P w mg base 11 "__neg__" c B f fd ps 1 := (lk_cons ⟨_, fd28, [("self" : PySem.Str)], (He.meth_ok (h.c.fact 68)).at_, (He.meth_ok (h.c.fact 68)).fn, fn_up ok28 (by decide), F28.bindsN (ps := [("self" : PySem.Str)]) fun _ _ _ _ _ _ us hl => match us, hl with | [_], _ => rfl, ar_of⟩ lk_nil)
  have ht_fl_kind : ∀ c i, List.lookup c [(1, 4)] = some i → ClsOk (gm K) c ∧ ((gm K).lay c)[i]? = some ("kind" : PySem.Str) := (lk_cons ⟨co1 h, rfl⟩ lk_nil)
  have g4 : GlOk (gm K) P w mg base 2 ("_law_is" : PySem.Str) 3 [] B__law_is _ fd4 [("_law_told" : PySem.Str), ("_law_top" : PySem.Str), ("_law_bottom" : PySem.Str)] := ⟨He.glo_ok h.X0 h.G0 (h.c.fact 18), F4.kp, ok4, ar_of⟩
  have g33 : GlOk (gm K) P w mg base 9 ("product_of" : PySem.Str) 2 [] B_product_of _ fd33 [("one" : PySem.Str), ("other" : PySem.Str)] := ⟨He.glo_ok h.X0 h.G0 (h.c.fact 85), F33.kp, ok33, ar_of⟩
  have g5 : GlOk (gm K) P w mg base 2 ("_law_times" : PySem.Str) 2 [] B__law_times _ fd5 [("_law_one" : PySem.Str), ("_law_other" : PySem.Str)] := ⟨He.glo_ok h.X0 h.G0 (h.c.fact 13), F5.kp, ok5, ar_of⟩
  have g1 : GlOk (gm K) P w mg base 2 ("_law_take" : PySem.Str) 2 [0] B__law_take _ fd1 [("_law_sack_here" : PySem.Str), ("_law_many" : PySem.Str)] := ⟨He.glo_ok h.X0 h.G0 (h.c.fact 3), F1.kp, ok1, ar_of⟩
  have nw9 : NwOk (gm K) P w mg base 3 ("Ratio" : PySem.Str) 0 3 B_Ratio___init__ _ fd9 [("self" : PySem.Str), ("top" : PySem.Str), ("bottom" : PySem.Str)] := ⟨He.glo_ok h.X0 h.G0 (h.c.fact 9), He.mkr_ok (h.c.fact 28), rfl, ok9, ar_of, rfl⟩
  obtain ⟨bd9_3, bd9_3_v, bd9_3_b⟩ := F9.binds1 (ps := [("self" : PySem.Str), ("top" : PySem.Str), ("bottom" : PySem.Str)]) 3 1 (List.cons_ne_nil _ _) rfl fun T kV doc pm an cdv ct us its h1 h2 => ⟨_, rfl, match us, h1, its, h2 with | [_, _, _], _, [_], _ => rfl⟩
  have hN : N34.Nodup := sc34.nd
  obtain ⟨fd, F⟩ := h.c.def_ 34 (d := d34) rfl
  exact ⟨fd, F, def_ok (G := gm K) (N := N34) (k := 12) (O' := [0]) F sc34 fun cdv A outer s H E hr tk => (s_cons (s_asg (vs := [0, 1, 2, 3, 4, 5, 6, 7, 8, 9, 10, 11, 12, 13, 14, 15, 16]) (e_tup (a_cons (e_var 1) (a_cons (e_var 2) a_nil))) (g_tup (gs_cons (g_tup (gs_cons (g_to (O2 := [0]) (g_name 3)) (gs_cons (g_to (O2 := [0]) (g_name 4)) gs_nil))) (gs_cons (g_tup (gs_cons (g_to (O2 := [0]) (g_name 5)) (gs_cons (g_to (O2 := [0]) (g_name 6)) gs_nil))) gs_nil)))) (s_cons (s_to (O2 := [0]) (s_par2 7 8 (a_cons (e_call tk (hr.mono (by decide)) g24 (F24.bindsN (ps := [("_law_plain_here" : PySem.Str)]) fun _ _ _ _ _ _ us hl => match us, hl with | [_], _ => rfl) .nil (fun _ => .nil) (a_cons (e_var 1) a_nil)) (a_cons (e_call tk (hr.mono (by decide)) g24 (F24.bindsN (ps := [("_law_plain_here" : PySem.Str)]) fun _ _ _ _ _ _ us hl => match us, hl with | [_], _ => rfl) .nil (fun _ => .nil) (a_cons (e_var 2) a_nil)) a_nil)))) (s_cons (s_to (O2 := [0]) (s_setLc 9 (vs := [14, 15]) [(("_law_left" : PySem.Str), 14), (("_law_right" : PySem.Str), 15)] rfl (i_zip (a_cons (e_var 3) (a_cons (e_var 5) a_nil))) (blkOk_by (by kernel_rfl)) (fun _ _ _ _ _ => (g_tup (gs_cons (g_to (O2 := [0]) (g_name 14)) (gs_cons (g_to (O2 := [0]) (g_name 15)) gs_nil)))) (fun _ _ _ _ _ => pts_no) (fun _ _ _ _ _ => (e_bin (o_bin [(1, B_Step___add__)] ["int"] [0, 1] takes_blk (hr.mono (by decide)) o_add ht_add) (e_bin (o_bin [(1, B_Step___mul__)] ["int"] [0, 1] takes_blk (hr.mono (by decide)) o_mul ht_mul) (e_var 14) (e_var 6)) (e_bin (o_bin [(1, B_Step___mul__)] ["int"] [0, 1] takes_blk (hr.mono (by decide)) o_mul ht_mul) (e_var 15) (e_var 4)))))) (s_cons (s_to (O2 := [0]) (s_setLc 10 (vs := [14, 15]) [(("_law_left" : PySem.Str), 14), (("_law_right" : PySem.Str), 15)] rfl (i_zip (a_cons (e_var 3) (a_cons (e_var 5) a_nil))) (blkOk_by (by kernel_rfl)) (fun _ _ _ _ _ => (g_tup (gs_cons (g_to (O2 := [0]) (g_name 14)) (gs_cons (g_to (O2 := [0]) (g_name 15)) gs_nil)))) (fun _ _ _ _ _ => pts_no) (fun _ _ _ _ _ => (e_bin (o_bin [(1, B_Step___sub__)] ["int"] [0, 1] takes_blk (hr.mono (by decide)) o_sub ht_sub) (e_bin (o_bin [(1, B_Step___mul__)] ["int"] [0, 1] takes_blk (hr.mono (by decide)) o_mul ht_mul) (e_var 14) (e_var 6)) (e_bin (o_bin [(1, B_Step___mul__)] ["int"] [0, 1] takes_blk (hr.mono (by decide)) o_mul ht_mul) (e_var 15) (e_var 4)))))) (s_cons (s_if (t_bo (w_or (t_not (t_val (e_call tk (hr.mono (by decide)) g7 (F7.bindsN (ps := [("_law_step" : PySem.Str), ("_law_numbers" : PySem.Str), ("_law_bottom" : PySem.Str)]) fun _ _ _ _ _ _ us hl => match us, hl with | [_, _, _], _ => rfl) .nil (fun _ => .nil) (a_cons (e_var 7) (a_cons (e_var 3) (a_cons (e_var 4) a_nil)))))) (w_or (t_not (t_val (e_call tk (hr.mono (by decide)) g7 (F7.bindsN (ps := [("_law_step" : PySem.Str), ("_law_numbers" : PySem.Str), ("_law_bottom" : PySem.Str)]) fun _ _ _ _ _ _ us hl => match us, hl with | [_, _, _], _ => rfl) .nil (fun _ => .nil) (a_cons (e_bin (o_bin [(1, B_Step___add__)] ["int"] [0, 1] tk (hr.mono (by decide)) o_add ht_add) (e_var 7) (e_var 8)) (a_cons (e_var 9) (a_cons (e_bin (o_bin [(1, B_Step___mul__)] ["int"] [0, 1] tk (hr.mono (by decide)) o_mul ht_mul) (e_var 4) (e_var 6)) a_nil)))))) (w_or1 (t_not (t_val (e_call tk (hr.mono (by decide)) g7 (F7.bindsN (ps := [("_law_step" : PySem.Str), ("_law_numbers" : PySem.Str), ("_law_bottom" : PySem.Str)]) fun _ _ _ _ _ _ us hl => match us, hl with | [_, _, _], _ => rfl) .nil (fun _ => .nil) (a_cons (e_bin (o_bin [(1, B_Step___sub__)] ["int"] [0, 1] tk (hr.mono (by decide)) o_sub ht_sub) (e_var 7) (e_var 8)) (a_cons (e_var 10) (a_cons (e_bin (o_bin [(1, B_Step___mul__)] ["int"] [0, 1] tk (hr.mono (by decide)) o_mul ht_mul) (e_var 4) (e_var 6)) a_nil)))))))))) (s_one (s_ret e_bl)) s_nil) (s_cons (s_if (t_bo (w_or (t_cmp (o_neW [(0, B_Ratio___eq__), (1, B_Step___eq__)] ["int"] [0, 1] tk (hr.mono (by decide)) (o_ne hr) ht_eqN) (e_bin (o_bin [(1, B_Step___add__)] ["int"] [0, 1] tk (hr.mono (by decide)) o_add ht_add) (e_var 8) (e_var 7)) (e_bin (o_bin [(1, B_Step___add__)] ["int"] [0, 1] tk (hr.mono (by decide)) o_add ht_add) (e_var 7) (e_var 8))) (w_or (t_not (t_val (e_call tk (hr.mono (by decide)) g7 (F7.bindsN (ps := [("_law_step" : PySem.Str), ("_law_numbers" : PySem.Str), ("_law_bottom" : PySem.Str)]) fun _ _ _ _ _ _ us hl => match us, hl with | [_, _, _], _ => rfl) .nil (fun _ => .nil) (a_cons (e_un (o_negW [(1, B_Step___neg__)] tk (hr.mono (by decide)) o_neg ht_neg) (e_var 7)) (a_cons (e_lcF (vs := [16]) [(("_law_number" : PySem.Str), 16)] rfl (i_seq (e_var 3)) (blkOk_by (by kernel_rfl)) (fun _ _ _ _ _ => (g_to (O2 := [0]) (g_name 16))) (fun _ _ _ _ _ => pts_no) (fun _ _ _ _ _ => (e_un (o_negW [(1, B_Step___neg__)] takes_blk (hr.mono (by decide)) o_neg ht_neg) (e_var 16)))).fz (a_cons (e_var 4) a_nil)))))) (w_or1 (t_cmp (o_neW [(0, B_Ratio___eq__), (1, B_Step___eq__)] ["int"] [0, 1] tk (hr.mono (by decide)) (o_ne hr) ht_eqN) (e_fl [(1, 4)] (e_bin (o_bin [(1, B_Step___sub__)] ["int"] [0, 1] tk (hr.mono (by decide)) o_sub ht_sub) (e_var 7) (e_var 7)) ht_fl_kind) e_str))))) (s_one (s_ret e_bl)) s_nil) (s_cons (s_if (t_bo (w_or (t_not (t_val (e_call tk (hr.mono (by decide)) g4 (F4.bindsN (ps := [("_law_told" : PySem.Str), ("_law_top" : PySem.Str), ("_law_bottom" : PySem.Str)]) fun _ _ _ _ _ _ us hl => match us, hl with | [_, _, _], _ => rfl) .nil (fun _ => .nil) (a_cons (e_callK tk (hr.mono (by decide)) g33 (bindK0 (ps := [("one" : PySem.Str), ("other" : PySem.Str)]) F33 1 [("other" : PySem.Str)] [0, 1] fun _ _ _ _ _ _ us ws h1 h2 => match us, h1, ws, h2 with | [_], _, [_], _ => rfl) .nil (fun _ => .nil) (a_cons (e_var 7) a_nil) (k_cons (e_var 8) k_nil)) (a_cons (e_call tk (hr.mono (by decide)) g5 (F5.bindsN (ps := [("_law_one" : PySem.Str), ("_law_other" : PySem.Str)]) fun _ _ _ _ _ _ us hl => match us, hl with | [_, _], _ => rfl) .nil (fun _ => .nil) (a_cons (e_var 3) (a_cons (e_var 5) a_nil))) (a_cons (e_bin (o_bin [(1, B_Step___mul__)] ["int"] [0, 1] tk (hr.mono (by decide)) o_mul ht_mul) (e_var 4) (e_var 6)) a_nil)))))) (w_or1 (t_cmp (o_neW [(0, B_Ratio___eq__), (1, B_Step___eq__)] ["int"] [0, 1] tk (hr.mono (by decide)) (o_ne hr) ht_eqN) (e_call tk (hr.mono (by decide)) g33 (F33.bindsN (ps := [("one" : PySem.Str), ("other" : PySem.Str)]) fun _ _ _ _ _ _ us hl => match us, hl with | [_, _], _ => rfl) .nil (fun _ => .nil) (a_cons (e_var 8) (a_cons (e_var 7) a_nil))) (e_call tk (hr.mono (by decide)) g33 (F33.bindsN (ps := [("one" : PySem.Str), ("other" : PySem.Str)]) fun _ _ _ _ _ _ us hl => match us, hl with | [_, _], _ => rfl) .nil (fun _ => .nil) (a_cons (e_var 7) (a_cons (e_var 8) a_nil))))))) (s_one (s_ret e_bl)) s_nil) (s_cons (s_asg (vs := [0, 1, 2, 3, 4, 5, 6, 7, 8, 9, 10, 11, 12, 13, 14, 15, 16]) (e_tup (a_cons (e_bin (o_bin [(1, B_Step___sub__)] ["int"] [0, 1] tk (hr.mono (by decide)) o_sub ht_sub) (e_callO 0 tk (hr.mono (by decide)) g1 (F1.bindsN (ps := [("_law_sack_here" : PySem.Str), ("_law_many" : PySem.Str)]) fun _ _ _ _ _ _ us hl => match us, hl with | [_, _], _ => rfl) (a_cons e_int a_nil)) e_int) (a_cons (e_bin (o_bin [(1, B_Step___add__)] ["int"] [0, 1] tk (hr.mono (by decide)) o_add ht_add) e_int (e_callO 0 tk (hr.mono (by decide)) g1 (F1.bindsN (ps := [("_law_sack_here" : PySem.Str), ("_law_many" : PySem.Str)]) fun _ _ _ _ _ _ us hl => match us, hl with | [_, _], _ => rfl) (a_cons e_int a_nil))) a_nil))) (g_tup (gs_cons (g_to (O2 := [0]) (g_name 11)) (gs_cons (g_to (O2 := [0]) (g_name 12)) gs_nil)))) (s_cons (s_to (O2 := [0]) (s_set 13 (e_if (t_bo (w_or (t_cmp o_gt (e_var 12) e_int) (w_or1 (t_cmp (o_eq hr) (e_callO 0 tk (hr.mono (by decide)) g1 (F1.bindsN (ps := [("_law_sack_here" : PySem.Str), ("_law_many" : PySem.Str)]) fun _ _ _ _ _ _ us hl => match us, hl with | [_, _], _ => rfl) (a_cons e_int a_nil)) e_int)))) (e_new tk (hr.mono (by decide)) nw9 bd9_3_b bd9_3_v (fun _ => .nil) (a_cons (e_var 11) (a_cons (e_var 12) a_nil))) (e_var 11)))) (s_one (s_ret (e_call tk (hr.mono (by decide)) g7 (F7.bindsN (ps := [("_law_step" : PySem.Str), ("_law_numbers" : PySem.Str), ("_law_bottom" : PySem.Str)]) fun _ _ _ _ _ _ us hl => match us, hl with | [_, _, _], _ => rfl) .nil (fun _ => .nil) (a_cons (e_bin (o_bin [(1, B_Step___mul__)] ["int"] [0, 1] tk (hr.mono (by decide)) o_mul ht_mul) (e_var 7) (e_var 13)) (a_cons (e_lcF (vs := [16]) [(("_law_number" : PySem.Str), 16)] rfl (i_seq (e_var 3)) (blkOk_by (by kernel_rfl)) (fun _ _ _ _ _ => (g_to (O2 := [0]) (g_name 16))) (fun _ _ _ _ _ => pts_no) (fun _ _ _ _ _ => (e_bin (o_bin [(1, B_Step___mul__)] ["int"] [0, 1] takes_blk (hr.mono (by decide)) o_mul ht_mul) (e_var 16) (e_var 11)))).fz (a_cons (e_bin (o_bin [(1, B_Step___mul__)] ["int"] [0, 1] tk (hr.mono (by decide)) o_mul ht_mul) (e_var 4) (e_var 12)) a_nil)))))))))))))))⟩
theorem ok_35 {P : Program} {w : World} {K : PySem.W.Frag} {mg : Str → Option Value} {base : Heap} (h : Hy K mg base) : ∃ fd, FunD K d35.name d35.qual d35.params d35.body d35.scope (d35.dvs K) [] (d35.wh.ad K) fd ∧ FnB P w (gm K) mg base 12 (d35.wh.ad K) fd [("_law_one" : PySem.Str), ("_law_other" : PySem.Str), ("_law_third" : PySem.Str)] 3 [] B__law_shared_right := by
  obtain ⟨fd24, F24, ok24⟩ := ok_24 (P := P) (w := w) h
  obtain ⟨fd33, F33, ok33⟩ := ok_33 (P := P) (w := w) h
  obtain ⟨fd12, F12, ok12⟩ := ok_12 (P := P) (w := w) h
  obtain ⟨fd27, F27, ok27⟩ := ok_27 (P := P) (w := w) h
  obtain ⟨fd30, F30, ok30⟩ := ok_30 (P := P) (w := w) h
  obtain ⟨fd31, F31, ok31⟩ := ok_31 (P := P) (w := w) h
  have g24 : GlOk (gm K) P w mg base 11 ("_law_made" : PySem.Str) 1 [] B__law_made _ fd24 [("_law_plain_here" : PySem.Str)] := ⟨He.glo_ok h.X0 h.G0 (h.c.fact 75), F24.kp, ok24, ar_of⟩
  have g33 : GlOk (gm K) P w mg base 9 ("product_of" : PySem.Str) 2 [] B_product_of _ fd33 [("one" : PySem.Str), ("other" : PySem.Str)] := ⟨He.glo_ok h.X0 h.G0 (h.c.fact 85), F33.kp, ok33, ar_of⟩
  have ht_add : ∀ c B, List.lookup c [(0, B_Ratio___add__), (1, B_Step___add__)] = some B → (∃ f fd ps, OwnOk (gm K) P w mg base 11 ("__add__" : PySem.Str) c B f fd ps 2) ∧ BinOk (gm K) ("__add__" : PySem.Str) ("__radd__" : PySem.Str) ["int"] [0, 1] c := (lk_cons ⟨⟨_, fd12, [("self" : PySem.Str), ("other" : PySem.Str)], (He.meth_ok (h.c.fact 36)).at_, (He.meth_ok (h.c.fact 36)).fn, fn_up ok12 (by decide), F12.bindsN (ps := [("self" : PySem.Str), ("other" : PySem.Str)]) fun _ _ _ _ _ _ us hl => match us, hl with | [_, _], _ => rfl, ar_of⟩, ⟨(h.c.fact 37), rd_ok (h.c.fact 38), (mem_cons ⟨by decide, biT_ok (h.c.fact 31)⟩ mem_nil), (mem_cons (.inl rfl) (mem_cons (.inr ⟨(sub_ok (h.c.fact 32)).2, (h.c.fact 33), ⟨_, (He.meth_ok (h.c.fact 34)).at_⟩, rd_ok (h.c.fact 35), (sub_ok (h.c.fact 32)).1⟩) mem_nil))⟩⟩ (lk_cons ⟨⟨_, fd27, [("self" : PySem.Str), ("other" : PySem.Str)], (He.meth_ok (h.c.fact 34)).at_, (He.meth_ok (h.c.fact 34)).fn, fn_up ok27 (by decide), F27.bindsN (ps := [("self" : PySem.Str), ("other" : PySem.Str)]) fun _ _ _ _ _ _ us hl => match us, hl with | [_, _], _ => rfl, ar_of⟩, ⟨(h.c.fact 33), rd_ok (h.c.fact 35), (mem_cons ⟨by decide, biT_ok (h.c.fact 69)⟩ mem_nil), (mem_cons (.inr ⟨(sub_ok (h.c.fact 70)).2, (h.c.fact 37), ⟨_, (He.meth_ok (h.c.fact 36)).at_⟩, rd_ok (h.c.fact 38), (sub_ok (h.c.fact 70)).1⟩) (mem_cons (.inl rfl) mem_nil))⟩⟩ lk_nil))
  have ht_eq : ∀ c B, List.lookup c [(0, B_Ratio___eq__), (1, B_Step___eq__)] = some B → (∃ f fd ps, OwnOk (gm K) P w mg base 5 ("__eq__" : PySem.Str) c B f fd ps 2) ∧ CmpOk (gm K) ["int"] [0, 1] c := (lk_cons ⟨⟨_, fd30, [("self" : PySem.Str), ("other" : PySem.Str)], (He.meth_ok (h.c.fact 74)).at_, (He.meth_ok (h.c.fact 74)).fn, fn_up ok30 (by decide), F30.bindsN (ps := [("self" : PySem.Str), ("other" : PySem.Str)]) fun _ _ _ _ _ _ us hl => match us, hl with | [_, _], _ => rfl, ar_of⟩, ⟨(mem_cons ⟨by decide, (h.c.fact 71)⟩ mem_nil), (mem_cons (h.c.fact 73) (mem_cons (h.c.fact 72) mem_nil))⟩⟩ (lk_cons ⟨⟨_, fd31, [("self" : PySem.Str), ("other" : PySem.Str)], (He.meth_ok (h.c.fact 82)).at_, (He.meth_ok (h.c.fact 82)).fn, fn_up ok31 (by decide), F31.bindsN (ps := [("self" : PySem.Str), ("other" : PySem.Str)]) fun _ _ _ _ _ _ us hl => match us, hl with | [_, _], _ => rfl, ar_of⟩, ⟨(mem_cons ⟨by decide, (h.c.fact 79)⟩ mem_nil), (mem_cons (h.c.fact 81) (mem_cons (h.c.fact 80) mem_nil))⟩⟩ lk_nil))
  have hN : N35.Nodup := sc35.nd
  obtain ⟨fd, F⟩ := h.c.def_ 35 (d := d35) rfl
  exact ⟨fd, F, def_ok (G := gm K) (N := N35) (k := 11) (O' := []) F sc35 fun cdv A outer s H E hr tk => (s_cons (s_to (O2 := []) (s_par3 3 4 5 (a_cons (e_call tk (hr.mono (by decide)) g24 (F24.bindsN (ps := [("_law_plain_here" : PySem.Str)]) fun _ _ _ _ _ _ us hl => match us, hl with | [_], _ => rfl) .nil (fun _ => .nil) (a_cons (e_var 0) a_nil)) (a_cons (e_call tk (hr.mono (by decide)) g24 (F24.bindsN (ps := [("_law_plain_here" : PySem.Str)]) fun _ _ _ _ _ _ us hl => match us, hl with | [_], _ => rfl) .nil (fun _ => .nil) (a_cons (e_var 1) a_nil)) (a_cons (e_call tk (hr.mono (by decide)) g24 (F24.bindsN (ps := [("_law_plain_here" : PySem.Str)]) fun _ _ _ _ _ _ us hl => match us, hl with | [_], _ => rfl) .nil (fun _ => .nil) (a_cons (e_var 2) a_nil)) a_nil))))) (s_cons (s_to (O2 := []) (s_set 6 (e_bin (o_bin [(0, B_Ratio___add__), (1, B_Step___add__)] ["int"] [0, 1] tk (hr.mono (by decide)) o_add ht_add) (e_call tk (hr.mono (by decide)) g33 (F33.bindsN (ps := [("one" : PySem.Str), ("other" : PySem.Str)]) fun _ _ _ _ _ _ us hl => match us, hl with | [_, _], _ => rfl) .nil (fun _ => .nil) (a_cons (e_var 3) (a_cons (e_var 5) a_nil))) (e_call tk (hr.mono (by decide)) g33 (F33.bindsN (ps := [("one" : PySem.Str), ("other" : PySem.Str)]) fun _ _ _ _ _ _ us hl => match us, hl with | [_, _], _ => rfl) .nil (fun _ => .nil) (a_cons (e_var 4) (a_cons (e_var 5) a_nil)))))) (s_one (s_ret (e_and (e_cmp (o_eqT [(0, B_Ratio___eq__), (1, B_Step___eq__)] ["int"] [0, 1] tk (hr.mono (by decide)) ht_eq) (e_call tk (hr.mono (by decide)) g33 (F33.bindsN (ps := [("one" : PySem.Str), ("other" : PySem.Str)]) fun _ _ _ _ _ _ us hl => match us, hl with | [_, _], _ => rfl) .nil (fun _ => .nil) (a_cons (e_bin (o_bin [(0, B_Ratio___add__), (1, B_Step___add__)] ["int"] [0, 1] tk (hr.mono (by decide)) o_add ht_add) (e_var 3) (e_var 4)) (a_cons (e_var 5) a_nil))) (e_var 6)) (e_bo1 (e_cmp (o_eqT [(0, B_Ratio___eq__), (1, B_Step___eq__)] ["int"] [0, 1] tk (hr.mono (by decide)) ht_eq) (e_bin (o_bin [(0, B_Ratio___add__), (1, B_Step___add__)] ["int"] [0, 1] tk (hr.mono (by decide)) o_add ht_add) (e_bin (o_bin [(0, B_Ratio___add__), (1, B_Step___add__)] ["int"] [0, 1] tk (hr.mono (by decide)) o_add ht_add) (e_var 3) (e_var 4)) (e_var 5)) (e_bin (o_bin [(0, B_Ratio___add__), (1, B_Step___add__)] ["int"] [0, 1] tk (hr.mono (by decide)) o_add ht_add) (e_var 3) (e_bin (o_bin [(0, B_Ratio___add__), (1, B_Step___add__)] ["int"] [0, 1] tk (hr.mono (by decide)) o_add ht_add) (e_var 4) (e_var 5))))))))))⟩
theorem ok_36 {P : Program} {w : World} {K : PySem.W.Frag} {mg : Str → Option Value} {base : Heap} (h : Hy K mg base) : ∃ fd, FunD K d36.name d36.qual d36.params d36.body d36.scope (d36.dvs K) [] (d36.wh.ad K) fd ∧ FnB P w (gm K) mg base 8 (d36.wh.ad K) fd [("self" : PySem.Str), ("other" : PySem.Str)] 2 [] B_Ratio_is_below := by
  obtain ⟨fd10, F10, ok10⟩ := ok_10 (P := P) (w := w) h
  obtain ⟨fd14, F14, ok14⟩ := ok_14 (P := P) (w := w) h
  obtain ⟨fd21, F21, ok21⟩ := ok_21 (P := P) (w := w) h
  have g10 : GlOk (gm K) P w mg base 5 ("ratio_from" : PySem.Str) 2 [] B_ratio_from _ fd10 [("value" : PySem.Str), ("part" : PySem.Str)] := ⟨He.glo_ok h.X0 h.G0 (h.c.fact 29), F10.kp, ok10, ar_of⟩
  have ht_sub : ∀ c B, List.lookup c [(0, B_Ratio___sub__)] = some B → (∃ f fd ps, OwnOk (gm K) P w mg base 7 ("__sub__" : PySem.Str) c B f fd ps 2) ∧ BinOk (gm K) ("__sub__" : PySem.Str) ("__rsub__" : PySem.Str) ["int"] [0, 1] c := (lk_cons ⟨⟨_, fd14, [("self" : PySem.Str), ("other" : PySem.Str)], (He.meth_ok (h.c.fact 58)).at_, (He.meth_ok (h.c.fact 58)).fn, fn_up ok14 (by decide), F14.bindsN (ps := [("self" : PySem.Str), ("other" : PySem.Str)]) fun _ _ _ _ _ _ us hl => match us, hl with | [_, _], _ => rfl, ar_of⟩, ⟨(h.c.fact 37), rd_ok (h.c.fact 59), (mem_cons ⟨by decide, biT_ok (h.c.fact 55)⟩ mem_nil), (mem_cons (.inl rfl) (mem_cons (.inr ⟨(sub_ok (h.c.fact 32)).2, (h.c.fact 33), ⟨_, (He.meth_ok (h.c.fact 56)).at_⟩, rd_ok (h.c.fact 57), (sub_ok (h.c.fact 32)).1⟩) mem_nil))⟩⟩ lk_nil)
  have pr_sign : ∀ c B, List.lookup c [(0, B_Ratio_sign)] = some B → PrOk (gm K) P w mg base 2 c ("sign" : PySem.Str) B := (lk_cons ⟨(clo0 h).1, _, _, fd21, _, prp_ok (h.c.fact 60), ok21, F21.bindsN (ps := [("self" : PySem.Str)]) fun _ _ _ _ _ _ us hl => match us, hl with | [_], _ => rfl⟩ lk_nil)
  have hN : N36.Nodup := sc36.nd
  obtain ⟨fd, F⟩ := h.c.def_ 36 (d := d36) rfl
  exact ⟨fd, F, def_ok (G := gm K) (N := N36) (k := 7) (O' := []) F sc36 fun cdv A outer s H E hr tk => (s_one (s_ret (e_cmp o_lt (e_pr [(0, B_Ratio_sign)] (hr.mono (by decide)) (e_bin (o_bin [(0, B_Ratio___sub__)] ["int"] [0, 1] tk (hr.mono (by decide)) o_sub ht_sub) (e_var 0) (e_call tk (hr.mono (by decide)) g10 (F10.bindsN (ps := [("value" : PySem.Str), ("part" : PySem.Str)]) fun _ _ _ _ _ _ us hl => match us, hl with | [_, _], _ => rfl) .nil (fun _ => .nil) (a_cons (e_var 1) (a_cons e_str a_nil)))) pr_sign) e_int)))⟩
theorem ok_37 {P : Program} {w : World} {K : PySem.W.Frag} {mg : Str → Option Value} {base : Heap} (h : Hy K mg base) : ∃ fd, FunD K d37.name d37.qual d37.params d37.body d37.scope (d37.dvs K) [] (d37.wh.ad K) fd ∧ FnB P w (gm K) mg base 5 (d37.wh.ad K) fd [("_law_sack_here" : PySem.Str), ("_law_axes" : PySem.Str)] 2 [0] B__law_forward := by
  obtain ⟨fd1, F1, ok1⟩ := ok_1 (P := P) (w := w) h
  obtain ⟨fd2, F2, ok2⟩ := ok_2 (P := P) (w := w) h
  obtain ⟨fd3, F3, ok3⟩ := ok_3 (P := P) (w := w) h
  have g1 : GlOk (gm K) P w mg base 2 ("_law_take" : PySem.Str) 2 [0] B__law_take _ fd1 [("_law_sack_here" : PySem.Str), ("_law_many" : PySem.Str)] := ⟨He.glo_ok h.X0 h.G0 (h.c.fact 3), F1.kp, ok1, ar_of⟩
  have g2 : GlOk (gm K) P w mg base 3 ("_law_of" : PySem.Str) 2 [0] B__law_of _ fd2 [("_law_sack_here" : PySem.Str), ("_law_some" : PySem.Str)] := ⟨He.glo_ok h.X0 h.G0 (h.c.fact 4), F2.kp, ok2, ar_of⟩
  have g3 : GlOk (gm K) P w mg base 4 ("_law_plain" : PySem.Str) 2 [0] B__law_plain _ fd3 [("_law_sack_here" : PySem.Str), ("_law_axes" : PySem.Str)] := ⟨He.glo_ok h.X0 h.G0 (h.c.fact 86), F3.kp, ok3, ar_of⟩
  have m_sum : mg ("sum" : PySem.Str) = none := He.free_ok h.X0 h.G0 (h.c.fact 11)
  have hN : N37.Nodup := sc37.nd
  obtain ⟨fd, F⟩ := h.c.def_ 37 (d := d37) rfl
  exact ⟨fd, F, def_ok (G := gm K) (N := N37) (k := 4) (O' := [0]) F sc37 fun cdv A outer s H E hr tk => (s_cons (s_to (O2 := [0]) (s_set 2 (e_lst (a_cons (e_lst (a_cons (e_lst (a_cons e_int (a_cons e_int a_nil))) (a_cons (e_lst (a_cons e_int (a_cons (e_un o_neg e_int) a_nil))) (a_cons (e_lst (a_cons e_int (a_cons e_int a_nil))) a_nil)))) (a_cons (e_lst (a_cons (e_lst (a_cons e_int (a_cons e_int (a_cons e_int a_nil)))) (a_cons (e_lst (a_cons e_int (a_cons (e_un o_neg e_int) (a_cons e_int a_nil)))) (a_cons (e_lst (a_cons e_int (a_cons e_int (a_cons (e_un o_neg e_int) a_nil)))) a_nil)))) (a_cons (e_lst (a_cons (e_lst (a_cons e_int (a_cons e_int (a_cons e_int (a_cons (e_un o_neg e_int) a_nil))))) (a_cons (e_lst (a_cons e_int (a_cons e_int (a_cons e_int (a_cons e_int a_nil))))) (a_cons (e_lst (a_cons e_int (a_cons (e_un o_neg e_int) (a_cons e_int (a_cons e_int a_nil))))) a_nil)))) a_nil)))))) (s_cons (s_if (t_cmp (o_eq hr) (e_callO 0 tk (hr.mono (by decide)) g1 (F1.bindsN (ps := [("_law_sack_here" : PySem.Str), ("_law_many" : PySem.Str)]) fun _ _ _ _ _ _ us hl => match us, hl with | [_, _], _ => rfl) (a_cons e_int a_nil)) e_int) (s_one (s_ret (e_tup (a_cons (e_callO 0 tk (hr.mono (by decide)) g2 (F2.bindsN (ps := [("_law_sack_here" : PySem.Str), ("_law_some" : PySem.Str)]) fun _ _ _ _ _ _ us hl => match us, hl with | [_, _], _ => rfl) (a_cons (e_ix (e_var 2) (e_bin o_sub (e_var 1) e_int)) a_nil)) (a_cons (e_bin o_add e_int (e_callO 0 tk (hr.mono (by decide)) g1 (F1.bindsN (ps := [("_law_sack_here" : PySem.Str), ("_law_many" : PySem.Str)]) fun _ _ _ _ _ _ us hl => match us, hl with | [_, _], _ => rfl) (a_cons e_int a_nil))) a_nil))))) s_nil) (s_cons (s_asg (vs := [0, 1, 2, 3, 4, 5, 6, 7]) (e_callO 0 tk (hr.mono (by decide)) g3 (F3.bindsN (ps := [("_law_sack_here" : PySem.Str), ("_law_axes" : PySem.Str)]) fun _ _ _ _ _ _ us hl => match us, hl with | [_, _], _ => rfl) (a_cons (e_var 1) a_nil)) (g_tup (gs_cons (g_to (O2 := [0]) (g_name 3)) (gs_cons (g_to (O2 := [0]) (g_name 4)) gs_nil)))) (s_cons (s_to (O2 := [0]) (s_par2 5 6 (a_cons (e_sum (a_cons (e_lcF (vs := [7]) [(("_law_number" : PySem.Str), 7)] rfl (i_seq (e_sl (e_var 3) (i_so e_int) i_no)) (blkOk_by (by kernel_rfl)) (fun _ _ _ _ _ => (g_to (O2 := [0]) (g_name 7))) (fun _ _ _ _ _ => pts_no) (fun _ _ _ _ _ => (e_bin o_mul (e_var 7) (e_var 7)))).fz a_nil)) (a_cons e_int a_nil)))) (s_cons (s_while (OL := [0]) (t_cmp o_lt (e_bin o_mul (e_var 6) (e_var 6)) (e_var 5)) (s_one (s_to (O2 := [0]) (s_set 6 (e_bin o_add (e_var 6) e_int)))) (passes_of rfl)) (s_one (s_ret (e_tup (a_cons (e_bin o_add (e_lst (a_cons (e_bin o_add (e_var 6) (e_callO 0 tk (hr.mono (by decide)) g1 (F1.bindsN (ps := [("_law_sack_here" : PySem.Str), ("_law_many" : PySem.Str)]) fun _ _ _ _ _ _ us hl => match us, hl with | [_, _], _ => rfl) (a_cons e_int a_nil))) a_nil)) (e_sl (e_var 3) (i_so e_int) i_no)) (a_cons (e_var 4) a_nil))))))))))⟩
theorem ok_38 {P : Program} {w : World} {K : PySem.W.Frag} {mg : Str → Option Value} {base : Heap} (h : Hy K mg base) : ∃ fd, FunD K d38.name d38.qual d38.params d38.body d38.scope (d38.dvs K) [] (d38.wh.ad K) fd ∧ FnB P w (gm K) mg base 13 (d38.wh.ad K) fd [("_law_sack_here" : PySem.Str), ("_law_axes" : PySem.Str)] 2 [0] B__law_forward_right := by
  obtain ⟨fd24, F24, ok24⟩ := ok_24 (P := P) (w := w) h
  obtain ⟨fd37, F37, ok37⟩ := ok_37 (P := P) (w := w) h
  obtain ⟨fd12, F12, ok12⟩ := ok_12 (P := P) (w := w) h
  obtain ⟨fd27, F27, ok27⟩ := ok_27 (P := P) (w := w) h
  obtain ⟨fd28, F28, ok28⟩ := ok_28 (P := P) (w := w) h
  obtain ⟨fd29, F29, ok29⟩ := ok_29 (P := P) (w := w) h
  obtain ⟨fd36, F36, ok36⟩ := ok_36 (P := P) (w := w) h
  obtain ⟨fd33, F33, ok33⟩ := ok_33 (P := P) (w := w) h
  obtain ⟨fd21, F21, ok21⟩ := ok_21 (P := P) (w := w) h
  obtain ⟨fd30, F30, ok30⟩ := ok_30 (P := P) (w := w) h
  obtain ⟨fd31, F31, ok31⟩ := ok_31 (P := P) (w := w) h
  obtain ⟨fd32, F32, ok32⟩ := ok_32 (P := P) (w := w) h
  have g24 : GlOk (gm K) P w mg base 11 ("_law_made" : PySem.Str) 1 [] B__law_made _ fd24 [("_law_plain_here" : PySem.Str)] := ⟨He.glo_ok h.X0 h.G0 (h.c.fact 75), F24.kp, ok24, ar_of⟩
  have g37 : GlOk (gm K) P w mg base 5 ("_law_forward" : PySem.Str) 2 [0] B__law_forward _ fd37 [("_law_sack_here" : PySem.Str), ("_law_axes" : PySem.Str)] := ⟨He.glo_ok h.X0 h.G0 (h.c.fact 87), F37.kp, ok37, ar_of⟩
  have ht_add : ∀ c B, List.lookup c [(0, B_Ratio___add__), (1, B_Step___add__)] = some B → (∃ f fd ps, OwnOk (gm K) P w mg base 11 ("__add__" : PySem.Str) c B f fd ps 2) ∧ BinOk (gm K) ("__add__" : PySem.Str) ("__radd__" : PySem.Str) ["int"] [0, 1] c := (lk_cons ⟨⟨_, fd12, [("self" : PySem.Str), ("other" : PySem.Str)], (He.meth_ok (h.c.fact 36)).at_, (He.meth_ok (h.c.fact 36)).fn, fn_up ok12 (by decide), F12.bindsN (ps := [("self" : PySem.Str), ("other" : PySem.Str)]) fun _ _ _ _ _ _ us hl => match us, hl with | [_, _], _ => rfl, ar_of⟩, ⟨(h.c.fact 37), rd_ok (h.c.fact 38), (mem_cons ⟨by decide, biT_ok (h.c.fact 31)⟩ mem_nil), (mem_cons (.inl rfl) (mem_cons (.inr ⟨(sub_ok (h.c.fact 32)).2, (h.c.fact 33), ⟨_, (He.meth_ok (h.c.fact 34)).at_⟩, rd_ok (h.c.fact 35), (sub_ok (h.c.fact 32)).1⟩) mem_nil))⟩⟩ (lk_cons ⟨⟨_, fd27, [("self" : PySem.Str), ("other" : PySem.Str)], (He.meth_ok (h.c.fact 34)).at_, (He.meth_ok (h.c.fact 34)).fn, fn_up ok27 (by decide), F27.bindsN (ps := [("self" : PySem.Str), ("other" : PySem.Str)]) fun _ _ _ _ _ _ us hl => match us, hl with | [_, _], _ => rfl, ar_of⟩, ⟨(h.c.fact 33), rd_ok (h.c.fact 35), (mem_cons ⟨by decide, biT_ok (h.c.fact 69)⟩ mem_nil), (mem_cons (.inr ⟨(sub_ok (h.c.fact 70)).2, (h.c.fact 37), ⟨_, (He.meth_ok (h.c.fact 36)).at_⟩, rd_ok (h.c.fact 38), (sub_ok (h.c.fact 70)).1⟩) (mem_cons (.inl rfl) mem_nil))⟩⟩ lk_nil))
  have ht_fl_kind : ∀ c i, List.lookup c [(1, 4)] = some i → ClsOk (gm K) c ∧ ((gm K).lay c)[i]? = some ("kind" : PySem.Str) := (lk_cons ⟨co1 h, rfl⟩ lk_nil)
  have ht_neg : ∀ c B, List.lookup c [(1, B_Step___neg__)] = some B → ∃ f fd ps, OwnOk (gm K) P w mg base 11 "__neg__" c B f fd ps 1 := (lk_cons ⟨_, fd28, [("self" : PySem.Str)], (He.meth_ok (h.c.fact 68)).at_, (He.meth_ok (h.c.fact 68)).fn, fn_up ok28 (by decide), F28.bindsN (ps := [("self" : PySem.Str)]) fun _ _ _ _ _ _ us hl => match us, hl with | [_], _ => rfl, ar_of⟩ lk_nil)
  have ht_sub : ∀ c B, List.lookup c [(1, B_Step___sub__)] = some B → (∃ f fd ps, OwnOk (gm K) P w mg base 12 ("__sub__" : PySem.Str) c B f fd ps 2) ∧ BinOk (gm K) ("__sub__" : PySem.Str) ("__rsub__" : PySem.Str) ["int"] [0, 1] c := (lk_cons ⟨⟨_, fd29, [("self" : PySem.Str), ("other" : PySem.Str)], (He.meth_ok (h.c.fact 56)).at_, (He.meth_ok (h.c.fact 56)).fn, fn_up ok29 (by decide), F29.bindsN (ps := [("self" : PySem.Str), ("other" : PySem.Str)]) fun _ _ _ _ _ _ us hl => match us, hl with | [_, _], _ => rfl, ar_of⟩, ⟨(h.c.fact 33), rd_ok (h.c.fact 57), (mem_cons ⟨by decide, biT_ok (h.c.fact 77)⟩ mem_nil), (mem_cons (.inr ⟨(sub_ok (h.c.fact 70)).2, (h.c.fact 37), ⟨_, (He.meth_ok (h.c.fact 58)).at_⟩, rd_ok (h.c.fact 59), (sub_ok (h.c.fact 70)).1⟩) (mem_cons (.inl rfl) mem_nil))⟩⟩ lk_nil)
  have mt_is_below_1 : ∀ c B, List.lookup c [(0, B_Ratio_is_below)] = some B → ∃ n f fd ps ds dvs, MtOk (gm K) P w mg base 8 c ("is_below" : PySem.Str) n B f fd ps ds dvs ∧ ∀ F, RepL (gm K) F [] dvs := (lk_cons ⟨2, _, fd36, [("self" : PySem.Str), ("other" : PySem.Str)], _, _, ⟨(clo0 h).1, He.meth_ok (h.c.fact 88), fn_up ok36 (by decide), ar_of, (F36.bindsN (ps := [("self" : PySem.Str), ("other" : PySem.Str)]) fun _ _ _ _ _ _ us hl => match us, hl with | [_, _], _ => rfl), .nil⟩, (fun _ => .nil)⟩ lk_nil)
  have ht_fl_square : ∀ c i, List.lookup c [(1, 3)] = some i → ClsOk (gm K) c ∧ ((gm K).lay c)[i]? = some ("square" : PySem.Str) := (lk_cons ⟨co1 h, rfl⟩ lk_nil)
  have g33 : GlOk (gm K) P w mg base 9 ("product_of" : PySem.Str) 2 [] B_product_of _ fd33 [("one" : PySem.Str), ("other" : PySem.Str)] := ⟨He.glo_ok h.X0 h.G0 (h.c.fact 85), F33.kp, ok33, ar_of⟩
  have pr_sign : ∀ c B, List.lookup c [(0, B_Ratio_sign)] = some B → PrOk (gm K) P w mg base 2 c ("sign" : PySem.Str) B := (lk_cons ⟨(clo0 h).1, _, _, fd21, _, prp_ok (h.c.fact 60), ok21, F21.bindsN (ps := [("self" : PySem.Str)]) fun _ _ _ _ _ _ us hl => match us, hl with | [_], _ => rfl⟩ lk_nil)
  have ht_eq : ∀ c B, List.lookup c [(0, B_Ratio___eq__), (1, B_Step___eq__)] = some B → (∃ f fd ps, OwnOk (gm K) P w mg base 5 ("__eq__" : PySem.Str) c B f fd ps 2) ∧ CmpOk (gm K) ["int"] [0, 1] c := (lk_cons ⟨⟨_, fd30, [("self" : PySem.Str), ("other" : PySem.Str)], (He.meth_ok (h.c.fact 74)).at_, (He.meth_ok (h.c.fact 74)).fn, fn_up ok30 (by decide), F30.bindsN (ps := [("self" : PySem.Str), ("other" : PySem.Str)]) fun _ _ _ _ _ _ us hl => match us, hl with | [_, _], _ => rfl, ar_of⟩, ⟨(mem_cons ⟨by decide, (h.c.fact 71)⟩ mem_nil), (mem_cons (h.c.fact 73) (mem_cons (h.c.fact 72) mem_nil))⟩⟩ (lk_cons ⟨⟨_, fd31, [("self" : PySem.Str), ("other" : PySem.Str)], (He.meth_ok (h.c.fact 82)).at_, (He.meth_ok (h.c.fact 82)).fn, fn_up ok31 (by decide), F31.bindsN (ps := [("self" : PySem.Str), ("other" : PySem.Str)]) fun _ _ _ _ _ _ us hl => match us, hl with | [_, _], _ => rfl, ar_of⟩, ⟨(mem_cons ⟨by decide, (h.c.fact 79)⟩ mem_nil), (mem_cons (h.c.fact 81) (mem_cons (h.c.fact 80) mem_nil))⟩⟩ lk_nil))
  have ht_fl_time : ∀ c i, List.lookup c [(1, 0)] = some i → ClsOk (gm K) c ∧ ((gm K).lay c)[i]? = some ("time" : PySem.Str) := (lk_cons ⟨co1 h, rfl⟩ lk_nil)
  have ht_mul : ∀ c B, List.lookup c [(1, B_Step___mul__)] = some B → (∃ f fd ps, OwnOk (gm K) P w mg base 11 ("__mul__" : PySem.Str) c B f fd ps 2) ∧ BinOk (gm K) ("__mul__" : PySem.Str) ("__rmul__" : PySem.Str) ["int"] [0, 1] c := (lk_cons ⟨⟨_, fd32, [("self" : PySem.Str), ("other" : PySem.Str)], (He.meth_ok (h.c.fact 50)).at_, (He.meth_ok (h.c.fact 50)).fn, fn_up ok32 (by decide), F32.bindsN (ps := [("self" : PySem.Str), ("other" : PySem.Str)]) fun _ _ _ _ _ _ us hl => match us, hl with | [_, _], _ => rfl, ar_of⟩, ⟨(h.c.fact 33), rd_ok (h.c.fact 51), (mem_cons ⟨by decide, biT_ok (h.c.fact 76)⟩ mem_nil), (mem_cons (.inr ⟨(sub_ok (h.c.fact 70)).2, (h.c.fact 37), ⟨_, (He.meth_ok (h.c.fact 52)).at_⟩, rd_ok (h.c.fact 53), (sub_ok (h.c.fact 70)).1⟩) (mem_cons (.inl rfl) mem_nil))⟩⟩ lk_nil)
  have hN : N38.Nodup := sc38.nd
  obtain ⟨fd, F⟩ := h.c.def_ 38 (d := d38) rfl
  exact ⟨fd, F, def_ok (G := gm K) (N := N38) (k := 12) (O' := [0]) F sc38 fun cdv A outer s H E hr tk => (s_cons (s_to (O2 := [0]) (s_par2 2 3 (a_cons (e_call tk (hr.mono (by decide)) g24 (F24.bindsN (ps := [("_law_plain_here" : PySem.Str)]) fun _ _ _ _ _ _ us hl => match us, hl with | [_], _ => rfl) .nil (fun _ => .nil) (a_cons (e_callO 0 tk (hr.mono (by decide)) g37 (F37.bindsN (ps := [("_law_sack_here" : PySem.Str), ("_law_axes" : PySem.Str)]) fun _ _ _ _ _ _ us hl => match us, hl with | [_, _], _ => rfl) (a_cons (e_var 1) a_nil)) a_nil)) (a_cons (e_call tk (hr.mono (by decide)) g24 (F24.bindsN (ps := [("_law_plain_here" : PySem.Str)]) fun _ _ _ _ _ _ us hl => match us, hl with | [_], _ => rfl) .nil (fun _ => .nil) (a_cons (e_callO 0 tk (hr.mono (by decide)) g37 (F37.bindsN (ps := [("_law_sack_here" : PySem.Str), ("_law_axes" : PySem.Str)]) fun _ _ _ _ _ _ us hl => match us, hl with | [_, _], _ => rfl) (a_cons (e_var 1) a_nil)) a_nil)) a_nil)))) (s_cons (s_to (O2 := [0]) (s_set 4 (e_bin (o_bin [(0, B_Ratio___add__), (1, B_Step___add__)] ["int"] [0, 1] tk (hr.mono (by decide)) o_add ht_add) (e_var 2) (e_var 3)))) (s_cons (s_if (t_bo (w_or (t_cmp (o_ne hr) (e_fl [(1, 4)] (e_var 2) ht_fl_kind) e_str) (w_or (t_cmp (o_ne hr) (e_fl [(1, 4)] (e_un (o_negW [(1, B_Step___neg__)] tk (hr.mono (by decide)) o_neg ht_neg) (e_var 2)) ht_fl_kind) e_str) (w_or (t_cmp (o_ne hr) (e_fl [(1, 4)] (e_var 4) ht_fl_kind) e_str) (w_or1 (t_cmp (o_ne hr) (e_fl [(1, 4)] (e_bin (o_bin [(1, B_Step___sub__)] ["int"] [0, 1] tk (hr.mono (by decide)) o_sub ht_sub) (e_un (o_negW [(1, B_Step___neg__)] tk (hr.mono (by decide)) o_neg ht_neg) (e_var 2)) (e_var 3)) ht_fl_kind) e_str)))))) (s_one (s_ret e_bl)) s_nil) (s_cons (s_if (t_bo (w_or (t_val (e_meth [(0, B_Ratio_is_below)] tk (hr.mono (by decide)) (show ("is_below" : PySem.Str) ∉ flds by decide +kernel) (e_fl [(1, 3)] (e_var 4) ht_fl_square) (a_cons (e_bin (o_bin [(0, B_Ratio___add__), (1, B_Step___add__)] ["int"] [0, 1] tk (hr.mono (by decide)) o_add ht_add) (e_fl [(1, 3)] (e_var 2) ht_fl_square) (e_fl [(1, 3)] (e_var 3) ht_fl_square)) a_nil) mt_is_below_1)) (w_or (t_cmp o_lt (e_pr [(0, B_Ratio_sign)] (hr.mono (by decide)) (e_call tk (hr.mono (by decide)) g33 (F33.bindsN (ps := [("one" : PySem.Str), ("other" : PySem.Str)]) fun _ _ _ _ _ _ us hl => match us, hl with | [_, _], _ => rfl) .nil (fun _ => .nil) (a_cons (e_var 2) (a_cons (e_var 3) a_nil))) pr_sign) e_int) (w_or1 (t_cmp o_gt (e_pr [(0, B_Ratio_sign)] (hr.mono (by decide)) (e_call tk (hr.mono (by decide)) g33 (F33.bindsN (ps := [("one" : PySem.Str), ("other" : PySem.Str)]) fun _ _ _ _ _ _ us hl => match us, hl with | [_, _], _ => rfl) .nil (fun _ => .nil) (a_cons (e_var 2) (a_cons (e_un (o_negW [(1, B_Step___neg__)] tk (hr.mono (by decide)) o_neg ht_neg) (e_var 3)) a_nil))) pr_sign) e_int))))) (s_one (s_ret e_bl)) s_nil) (s_one (s_ret (e_or (e_cmp (o_eqT [(0, B_Ratio___eq__), (1, B_Step___eq__)] ["int"] [0, 1] tk (hr.mono (by decide)) ht_eq) (e_pr [(0, B_Ratio_sign)] (hr.mono (by decide)) (e_call tk (hr.mono (by decide)) g33 (F33.bindsN (ps := [("one" : PySem.Str), ("other" : PySem.Str)]) fun _ _ _ _ _ _ us hl => match us, hl with | [_, _], _ => rfl) .nil (fun _ => .nil) (a_cons (e_var 2) (a_cons (e_var 3) a_nil))) pr_sign) e_int) (e_bo1 (e_and (e_cmp (o_eqT [(0, B_Ratio___eq__), (1, B_Step___eq__)] ["int"] [0, 1] tk (hr.mono (by decide)) ht_eq) (e_bin (o_bin [(1, B_Step___mul__)] ["int"] [0, 1] tk (hr.mono (by decide)) o_mul ht_mul) (e_var 2) (e_fl [(1, 0)] (e_var 3) ht_fl_time)) (e_bin (o_bin [(1, B_Step___mul__)] ["int"] [0, 1] tk (hr.mono (by decide)) o_mul ht_mul) (e_var 3) (e_fl [(1, 0)] (e_var 2) ht_fl_time))) (e_bo1 (e_cmp (o_eqT [(0, B_Ratio___eq__), (1, B_Step___eq__)] ["int"] [0, 1] tk (hr.mono (by decide)) ht_eq) (e_fl [(1, 3)] (e_var 2) ht_fl_square) e_int)))))))))))⟩
theorem ok_39 {P : Program} {w : World} {K : PySem.W.Frag} {mg : Str → Option Value} {base : Heap} (h : Hy K mg base) : ∃ fd, FunD K d39.name d39.qual d39.params d39.body d39.scope (d39.dvs K) [] (d39.wh.ad K) fd ∧ FnB P w (gm K) mg base 14 (d39.wh.ad K) fd [("_law_script" : PySem.Str)] 1 [] B_law := by
  obtain ⟨fd0, F0, ok0⟩ := ok_0 (P := P) (w := w) h
  obtain ⟨fd1, F1, ok1⟩ := ok_1 (P := P) (w := w) h
  obtain ⟨fd3, F3, ok3⟩ := ok_3 (P := P) (w := w) h
  obtain ⟨fd34, F34, ok34⟩ := ok_34 (P := P) (w := w) h
  obtain ⟨fd35, F35, ok35⟩ := ok_35 (P := P) (w := w) h
  obtain ⟨fd38, F38, ok38⟩ := ok_38 (P := P) (w := w) h
  have gf0 : GfOk (gm K) P w mg base 2 ("_law_sack" : PySem.Str) 1 B__law_sack _ fd0 [("_law_script" : PySem.Str)] := ⟨He.glo_ok h.X0 h.G0 (h.c.fact 89), F0.kp, ok0, F0.bindsN (ps := [("_law_script" : PySem.Str)]) fun _ _ _ _ _ _ us hl => match us, hl with | [_], _ => rfl, arF_of⟩
  have m_range : mg ("range" : PySem.Str) = none := He.free_ok h.X0 h.G0 (h.c.fact 5)
  have g1 : GlOk (gm K) P w mg base 2 ("_law_take" : PySem.Str) 2 [0] B__law_take _ fd1 [("_law_sack_here" : PySem.Str), ("_law_many" : PySem.Str)] := ⟨He.glo_ok h.X0 h.G0 (h.c.fact 3), F1.kp, ok1, ar_of⟩
  have g3 : GlOk (gm K) P w mg base 4 ("_law_plain" : PySem.Str) 2 [0] B__law_plain _ fd3 [("_law_sack_here" : PySem.Str), ("_law_axes" : PySem.Str)] := ⟨He.glo_ok h.X0 h.G0 (h.c.fact 86), F3.kp, ok3, ar_of⟩
  have g34 : GlOk (gm K) P w mg base 13 ("_law_sums_right" : PySem.Str) 3 [0] B__law_sums_right _ fd34 [("_law_sack_here" : PySem.Str), ("_law_one" : PySem.Str), ("_law_other" : PySem.Str)] := ⟨He.glo_ok h.X0 h.G0 (h.c.fact 90), F34.kp, ok34, ar_of⟩
  have g35 : GlOk (gm K) P w mg base 12 ("_law_shared_right" : PySem.Str) 3 [] B__law_shared_right _ fd35 [("_law_one" : PySem.Str), ("_law_other" : PySem.Str), ("_law_third" : PySem.Str)] := ⟨He.glo_ok h.X0 h.G0 (h.c.fact 91), F35.kp, ok35, ar_of⟩
  have g38 : GlOk (gm K) P w mg base 13 ("_law_forward_right" : PySem.Str) 2 [0] B__law_forward_right _ fd38 [("_law_sack_here" : PySem.Str), ("_law_axes" : PySem.Str)] := ⟨He.glo_ok h.X0 h.G0 (h.c.fact 92), F38.kp, ok38, ar_of⟩
  have hN : N39.Nodup := sc39.nd
  obtain ⟨fd, F⟩ := h.c.def_ 39 (d := d39) rfl
  exact ⟨fd, F, def_ok (G := gm K) (N := N39) (k := 13) (O' := [1]) F sc39 fun cdv A outer s H E hr tk => (s_cons (s_to (O2 := [1]) (s_setF 1 (e_callF tk (hr.mono (by decide)) gf0 (a_cons (e_var 0) a_nil)))) (s_cons (s_for (OL := [1]) [2] (i_rng1 (a_cons e_int a_nil)) (g_to (O2 := [1]) (g_name 2)) (s_cons (s_to (O2 := [1]) (s_set 3 (e_bin o_add e_int (e_callO 1 tk (hr.mono (by decide)) g1 (F1.bindsN (ps := [("_law_sack_here" : PySem.Str), ("_law_many" : PySem.Str)]) fun _ _ _ _ _ _ us hl => match us, hl with | [_, _], _ => rfl) (a_cons e_int a_nil))))) (s_cons (s_to (O2 := [1]) (s_par3 4 5 6 (a_cons (e_callO 1 tk (hr.mono (by decide)) g3 (F3.bindsN (ps := [("_law_sack_here" : PySem.Str), ("_law_axes" : PySem.Str)]) fun _ _ _ _ _ _ us hl => match us, hl with | [_, _], _ => rfl) (a_cons (e_var 3) a_nil)) (a_cons (e_callO 1 tk (hr.mono (by decide)) g3 (F3.bindsN (ps := [("_law_sack_here" : PySem.Str), ("_law_axes" : PySem.Str)]) fun _ _ _ _ _ _ us hl => match us, hl with | [_, _], _ => rfl) (a_cons (e_var 3) a_nil)) (a_cons (e_callO 1 tk (hr.mono (by decide)) g3 (F3.bindsN (ps := [("_law_sack_here" : PySem.Str), ("_law_axes" : PySem.Str)]) fun _ _ _ _ _ _ us hl => match us, hl with | [_, _], _ => rfl) (a_cons (e_var 3) a_nil)) a_nil))))) (s_cons (s_if (t_cmp (o_eq hr) (e_callO 1 tk (hr.mono (by decide)) g1 (F1.bindsN (ps := [("_law_sack_here" : PySem.Str), ("_law_many" : PySem.Str)]) fun _ _ _ _ _ _ us hl => match us, hl with | [_, _], _ => rfl) (a_cons e_int a_nil)) e_int) (s_one (s_to (O2 := [1]) (s_set 5 (e_var 4)))) s_nil) (s_one (s_if (t_bo (w_or (t_not (t_val (e_callO 1 tk (hr.mono (by decide)) g34 (F34.bindsN (ps := [("_law_sack_here" : PySem.Str), ("_law_one" : PySem.Str), ("_law_other" : PySem.Str)]) fun _ _ _ _ _ _ us hl => match us, hl with | [_, _, _], _ => rfl) (a_cons (e_var 4) (a_cons (e_var 5) a_nil))))) (w_or (t_not (t_val (e_call tk (hr.mono (by decide)) g35 (F35.bindsN (ps := [("_law_one" : PySem.Str), ("_law_other" : PySem.Str), ("_law_third" : PySem.Str)]) fun _ _ _ _ _ _ us hl => match us, hl with | [_, _, _], _ => rfl) .nil (fun _ => .nil) (a_cons (e_var 4) (a_cons (e_var 5) (a_cons (e_var 6) a_nil)))))) (w_or1 (t_not (t_val (e_callO 1 tk (hr.mono (by decide)) g38 (F38.bindsN (ps := [("_law_sack_here" : PySem.Str), ("_law_axes" : PySem.Str)]) fun _ _ _ _ _ _ us hl => match us, hl with | [_, _], _ => rfl) (a_cons (e_var 3) a_nil)))))))) (s_one (s_ret e_bl)) s_nil))))) (passes_of rfl)) (s_one (s_ret e_bl))))⟩
end Kw

namespace Kw
open PySem PySem.Spec PyProof.Rows L2 Z
abbrev Rw : PySem.W.OpenRow := PySem.W.OpenLaw.row PySem.Challenge.rw_whosefirst_k05_steps_add_up
abbrev hk : PySem.W.Hook := hookZ 5 fz fn
def ob (s : PySem.W.SharedT) : He.AlD := obsZG 5 fz fn (HandSHeadRun.getT s)
theorem ob_eq (s : PySem.W.SharedT) : ob s = hk.obs s.abs := obsZG_eq (HandSHeadRun.getT_eq s)
def loose0 : List PySem.Str := [("_wall" : PySem.Str), ("__name__" : PySem.Str), ("FIGURES" : PySem.Str), ("is_integer" : PySem.Str), ("is_within" : PySem.Str), ("is_listed" : PySem.Str), ("FirstError" : PySem.Str), ("BadRatio" : PySem.Str), ("BadStep" : PySem.Str), ("BadNumber" : PySem.Str), ("Unlike" : PySem.Str), ("BadText" : PySem.Str), ("MOST_FIGURES" : PySem.Str), ("number_in" : PySem.Str), ("Scan" : PySem.Str), ("is_ratio" : PySem.Str), ("are_ratios" : PySem.Str), ("ratio_from" : PySem.Str), ("ratio_in" : PySem.Str), ("take_ratio" : PySem.Str), ("Ratio" : PySem.Str), ("summed" : PySem.Str), ("MOST_AXES" : PySem.Str), ("need_step" : PySem.Str), ("need_axes" : PySem.Str), ("kind_by" : PySem.Str), ("product_at" : PySem.Str), ("take_place" : PySem.Str), ("take_step" : PySem.Str), ("Step" : PySem.Str), ("product_of" : PySem.Str), ("_law_sack" : PySem.Str), ("_law_take" : PySem.Str), ("_law_of" : PySem.Str), ("_law_plain" : PySem.Str), ("_law_forward" : PySem.Str), ("_law_made" : PySem.Str), ("_law_is" : PySem.Str), ("_law_times" : PySem.Str), ("_law_kind" : PySem.Str)]
def loose1 : List PySem.Str := [("_law_step_right" : PySem.Str), ("_law_sums_right" : PySem.Str), ("_law_shared_right" : PySem.Str), ("_law_forward_right" : PySem.Str)]
def loose : List PySem.Str := loose0 ++ loose1
theorem run (w : World) : HandSHeadRun.RunEqI Rw (PySem.W.view Rw.prog [0, 50]) hk ob 16000 loose w := by
  unfold HandSHeadRun.RunEqI
  kernel_rfl
end Kw

namespace Kw
open PySem PySem.Spec PyProof.Rows L2 Z
theorem fn_one {K : PySem.W.Frag} {x x' q q' : Str} {ps ps' : Arguments} {b b' : List Stmt} {sc sc' : Scope} {dv dv' : List V} {kw kw' : List (Str × V)} {f : Addr} {fd fd' : FuncData} (h : FunD K x q ps b sc dv kw f fd) (h' : FunD K x' q' ps' b' sc' dv' kw' f fd') : fd = fd' := by
  obtain ⟨_, _, _, _, _, _, _, _, _, _, _, e, _⟩ := h.ex
  obtain ⟨_, _, _, _, _, _, _, _, _, _, _, e', _⟩ := h'.ex
  rw [e] at e'
  cases e'
  rfl
theorem facts {P : Program} {w : World} {K : PySem.W.Frag} {h : Heap} {mg : Str → Option Value} {f : Addr} (X : K.In h) (G : h.Ns mainGlobals mg) (hfa : mg ("law" : PySem.Str) = some (.ref f)) (c : SaysZ fz fn K) :
    ∃ fd : FuncData, (∀ (s : Shared) (v : Value), BindsTo s fd ⟨[v], []⟩ [(("_law_script" : PySem.Str), v)]) ∧ ∀ base : Heap, K.In base → base.Ns mainGlobals mg → FnOk P w K mg base (L2.CX P w) 14 f fd [("_law_script" : PySem.Str)] (spB (gm K) 1 [] B_law) := by
  obtain ⟨fd, F⟩ := c.def_ 39 (d := d39) rfl
  have e := hfa.symm.trans (He.glo_ok X G (c.fact 97 (f := fGlo "law") rfl))
  cases e
  have b := FunD.bindsA (ps := [("_law_script" : PySem.Str)]) F fun _ _ _ _ _ _ us hl => match us, hl with | [_], _ => rfl
  refine ⟨fd, fun s v => b s [v] rfl, fun base kb gb => ?_⟩
  obtain ⟨fd2, F2, ok⟩ := ok_39 (P := P) (w := w) ⟨c, kb, gb⟩
  rw [fn_one F F2]
  exact ok
end Kw

set_option exponentiation.threshold 100
namespace Kw
open PySem PySem.Spec PyProof.Rows L2 Z
/-- a Ratio as a tree -/
def rl (q : Rat) : List D := [.int q.num, .int q.den]
abbrev rt (q : Rat) : D := .ob 0 (rl q)
@[simp] theorem rl_0 (q : Rat) : (rl q)[0]? = some (.int q.num) := rfl
@[simp] theorem rl_1 (q : Rat) : (rl q)[1]? = some (.int q.den) := rfl
/-- less than k bits above and below -/
def Bd (k : Nat) (q : Rat) : Prop := q.num.natAbs < 2 ^ k ∧ q.den < 2 ^ k
theorem Bd.mono {k m : Nat} {q : Rat} (h : Bd k q) (hk : k ≤ m) : Bd m q := ⟨Nat.lt_of_lt_of_le h.1 (Nat.pow_le_pow_right (by omega) hk), Nat.lt_of_lt_of_le h.2 (Nat.pow_le_pow_right (by omega) hk)⟩
theorem B_int (i : Int) : B_is_integer [.int i] = .ok (.bl true) [none] := by
  simp [B_is_integer, mkB, b_is_integer, kT, tyN]
theorem fdiv_nat (a : Int) (g : Nat) : a.fdiv (g : Int) = a / (g : Int) := Int.fdiv_eq_ediv_of_nonneg a (Int.natCast_nonneg g)
theorem B_ratio {n d : Int} (hp : 0 < d) (hb : d.natAbs < 2 ^ 7000) : B_Ratio___init__ [.ob 0 [], .int n, .int d] = .ok .non [some (rt (Rat.divInt n d)), none, none] := by
  have hd : d ≠ 0 := by omega
  have hgd : Int.gcd n d ∣ d.natAbs := by
    rw [Int.gcd]
    exact Nat.gcd_dvd_right _ _
  have hg0 : Int.gcd n d ≠ 0 := fun z => by
    rw [z] at hgd
    have := Nat.eq_zero_of_zero_dvd hgd
    omega
  have hlt : Int.gcd n d < 2 ^ 7000 := Nat.lt_of_le_of_lt (Nat.le_of_dvd (by omega) hgd) hb
  have hw : wd 8000 ((Int.gcd n d : Nat) : Int) = true := wd_of (k := 7000) (by simpa using hlt) (by omega) (by omega)
  have h0 : ((Int.gcd n d : Nat) : Int) ≠ 0 := by omega
  have e1 : (Rat.divInt n d).num = n / (Int.gcd n d : Nat) := by
    rw [Rat.num_divInt, Int.sign_eq_one_of_pos hp, Int.one_mul, Int.gcd_comm]
  have e2 : ((Rat.divInt n d).den : Int) = d / (Int.gcd n d : Nat) := by
    rw [Rat.den_divInt, if_neg hd, Int.gcd_comm, Int.natCast_ediv]
    congr 1
    omega
  simp [B_Ratio___init__, mkB, b_Ratio___init__, B_int, hp, hd, pDiv_int hw h0, fdiv_nat, rl, e1, e2]
theorem divInt_self (q : Rat) : Rat.divInt q.num q.den = q := Rat.num_divInt_den q
@[simp] theorem from_rt (q : Rat) (x : D) : B_ratio_from [rt q, x] = .ok (rt q) [none, none] := by
  simp [B_ratio_from, mkB, b_ratio_from, kO]
theorem from_int (i : Int) (x : D) : B_ratio_from [.int i, x] = .ok (rt i) [none, none] := by
  have e : Rat.divInt i 1 = (i : Rat) := Rat.num_divInt_den (i : Rat)
  have z := B_ratio (n := i) (d := 1) (by omega) (by decide)
  rw [e] at z
  simp [B_ratio_from, mkB, b_ratio_from, kO, tyN, B_int, z]
theorem den_pos (q : Rat) : (0 : Int) < q.den := by have := q.den_pos; omega
theorem Bd.mul1 {k : Nat} {a b : Int} (ha : a.natAbs < 2 ^ k) (hb : b.natAbs < 2 ^ k) (h0 : 0 < k) (hk : k ≤ 400000) : mulB a b = true := mulB_both ha hb h0 h0 hk hk
theorem num_le {n d : Int} (hd : 0 < d) : (Rat.divInt n d).num.natAbs ≤ n.natAbs ∧ (Rat.divInt n d).den ≤ d.natAbs := by
  have hd0 : d ≠ 0 := by omega
  constructor
  · rw [Rat.num_divInt, Int.sign_eq_one_of_pos hd, Int.one_mul, Int.natAbs_ediv_of_dvd (Int.gcd_dvd_right ..)]
    exact Nat.div_le_self _ _
  · rw [Rat.den_divInt, if_neg hd0]
    exact Nat.div_le_self _ _
theorem Bd.of {n d : Int} {k : Nat} (hd : 0 < d) (hn : n.natAbs < 2 ^ k) (hb : d.natAbs < 2 ^ k) : Bd k (Rat.divInt n d) :=
  ⟨Nat.lt_of_le_of_lt (num_le hd).1 hn, Nat.lt_of_le_of_lt (num_le hd).2 hb⟩
theorem abs_mul_lt {a b : Int} {j k : Nat} (ha : a.natAbs < 2 ^ j) (hb : b.natAbs < 2 ^ k) : (a * b).natAbs < 2 ^ (j + k) := by
  rw [Int.natAbs_mul, Nat.pow_add]
  exact Nat.mul_lt_mul'' ha hb
theorem abs_add_lt {a b : Int} {k : Nat} (ha : a.natAbs < 2 ^ k) (hb : b.natAbs < 2 ^ k) : (a + b).natAbs < 2 ^ (k + 1) := by
  have := Int.natAbs_add_le a b
  rw [Nat.pow_succ]
  omega
theorem add_eq (p q : Rat) : p + q = Rat.divInt (p.num * q.den + q.num * p.den) (p.den * q.den) := by
  have h := Rat.divInt_add_divInt p.num q.num (d₁ := p.den) (d₂ := q.den) (by have := den_pos p; omega) (by have := den_pos q; omega)
  rwa [divInt_self, divInt_self] at h
theorem mul_eq (p q : Rat) : p * q = Rat.divInt (p.num * q.num) (p.den * q.den) := by
  have h := Rat.divInt_mul_divInt p.num q.num (d₁ := p.den) (d₂ := q.den)
  rwa [divInt_self, divInt_self] at h
theorem Bd.add {k : Nat} {p q : Rat} (hp : Bd k p) (hq : Bd k q) : Bd (2 * k + 1) (p + q) := by
  rw [add_eq]
  refine Bd.of (Int.mul_pos (den_pos p) (den_pos q)) ?_ ?_
  · have := abs_add_lt (abs_mul_lt hp.1 (show (q.den : Int).natAbs < 2 ^ k by simpa using hq.2)) (abs_mul_lt hq.1 (show (p.den : Int).natAbs < 2 ^ k by simpa using hp.2))
    rwa [show k + k + 1 = 2 * k + 1 by omega] at this
  · have := abs_mul_lt (show (p.den : Int).natAbs < 2 ^ k by simpa using hp.2) (show (q.den : Int).natAbs < 2 ^ k by simpa using hq.2)
    exact Nat.lt_of_lt_of_le this (Nat.pow_le_pow_right (by omega) (by omega))
theorem Bd.mul {k : Nat} {p q : Rat} (hp : Bd k p) (hq : Bd k q) : Bd (2 * k + 1) (p * q) := by
  rw [mul_eq]
  refine Bd.of (Int.mul_pos (den_pos p) (den_pos q)) ?_ ?_
  · exact Nat.lt_of_lt_of_le (abs_mul_lt hp.1 hq.1) (Nat.pow_le_pow_right (by omega) (by omega))
  · have := abs_mul_lt (show (p.den : Int).natAbs < 2 ^ k by simpa using hp.2) (show (q.den : Int).natAbs < 2 ^ k by simpa using hq.2)
    exact Nat.lt_of_lt_of_le this (Nat.pow_le_pow_right (by omega) (by omega))
theorem Bd.neg {k : Nat} {p : Rat} (hp : Bd k p) : Bd k (-p) := ⟨by rw [Rat.neg_num, Int.natAbs_neg]; exact hp.1, by rw [Rat.neg_den]; exact hp.2⟩
theorem Bd.sub {k : Nat} {p q : Rat} (hp : Bd k p) (hq : Bd k q) : Bd (2 * k + 1) (p - q) := by
  rw [Rat.sub_eq_add_neg]
  exact hp.add hq.neg
theorem add_ok {k : Nat} {p q : Rat} (hp : Bd k p) (hq : Bd k q) (h0 : 0 < k) (hk : k ≤ 3000) : B_Ratio___add__ [rt p, rt q] = .ok (rt (p + q)) [none, none] := by
  have hpd : (p.den : Int).natAbs < 2 ^ k := by simpa using hp.2
  have hqd : (q.den : Int).natAbs < 2 ^ k := by simpa using hq.2
  have z := B_ratio (n := p.num * q.den + q.num * p.den) (d := p.den * q.den) (Int.mul_pos (den_pos p) (den_pos q)) (Nat.lt_of_lt_of_le (abs_mul_lt hpd hqd) (Nat.pow_le_pow_right (by omega) (by omega)))
  rw [← add_eq] at z
  have m1 := pMul_int (mulB_both hp.1 hqd h0 h0 (by omega) (by omega))
  have m2 := pMul_int (mulB_both hq.1 hpd h0 h0 (by omega) (by omega))
  have m3 := pMul_int (mulB_both hpd hqd h0 h0 (by omega) (by omega))
  have f := from_rt q (.str "other")
  simp [B_Ratio___add__, mkB, b_Ratio___add__, f, m1, m2, m3, z]
theorem mul_ok {k : Nat} {p q : Rat} (hp : Bd k p) (hq : Bd k q) (h0 : 0 < k) (hk : k ≤ 3000) : B_Ratio___mul__ [rt p, rt q] = .ok (rt (p * q)) [none, none] := by
  have hpd : (p.den : Int).natAbs < 2 ^ k := by simpa using hp.2
  have hqd : (q.den : Int).natAbs < 2 ^ k := by simpa using hq.2
  have z := B_ratio (n := p.num * q.num) (d := p.den * q.den) (Int.mul_pos (den_pos p) (den_pos q)) (Nat.lt_of_lt_of_le (abs_mul_lt hpd hqd) (Nat.pow_le_pow_right (by omega) (by omega)))
  rw [← mul_eq] at z
  have m1 := pMul_int (mulB_both hp.1 hq.1 h0 h0 (by omega) (by omega))
  have m3 := pMul_int (mulB_both hpd hqd h0 h0 (by omega) (by omega))
  have f := from_rt q (.str "other")
  simp [B_Ratio___mul__, mkB, b_Ratio___mul__, f, m1, m3, z]
theorem neg_ok {k : Nat} {p : Rat} (hp : Bd k p) (hk : k ≤ 7000) : B_Ratio___neg__ [rt p] = .ok (rt (-p)) [none] := by
  have hpd : (p.den : Int).natAbs < 2 ^ k := by simpa using hp.2
  have z := B_ratio (n := -p.num) (d := p.den) (den_pos p) (Nat.lt_of_lt_of_le hpd (Nat.pow_le_pow_right (by omega) (by omega)))
  have e : Rat.divInt (-p.num) p.den = -p := divInt_self (-p)
  rw [e] at z
  simp [B_Ratio___neg__, mkB, b_Ratio___neg__, z]
theorem sub_ok {k : Nat} {p q : Rat} (hp : Bd k p) (hq : Bd k q) (h0 : 0 < k) (hk : k ≤ 3000) : B_Ratio___sub__ [rt p, rt q] = .ok (rt (p - q)) [none, none] := by
  have f := from_rt q (.str "other")
  have n := neg_ok hq (by omega)
  have a := add_ok hp hq.neg h0 hk
  rw [Rat.sub_eq_add_neg]
  simp [B_Ratio___sub__, mkB, b_Ratio___sub__, f, n, oW, oC1, rk, a]
theorem sign_ok (p : Rat) : B_Ratio_sign [rt p] = .ok (.int p.num.sign) [none] := by
  have e : (if 0 < p.num then (1 : Int) else 0) - (if p.num < 0 then 1 else 0) = p.num.sign := by
    rcases Int.lt_trichotomy p.num 0 with h | h | h
    · rw [if_neg (by omega), if_pos h, Int.sign_eq_neg_one_of_neg h]; rfl
    · rw [h]; rfl
    · rw [if_pos h, if_neg (by omega), Int.sign_eq_one_of_pos h]; rfl
  simp [B_Ratio_sign, mkB, b_Ratio_sign, e]
theorem eq_ok (p q : Rat) : B_Ratio___eq__ [rt p, rt q] = .ok (.bl (decide (p = q))) [none, none] := by
  by_cases h : p.num = q.num
  · by_cases h2 : p.den = q.den
    · have e : p = q := Rat.ext h h2
      subst e
      simp [B_Ratio___eq__, mkB, b_Ratio___eq__, kO]
    · have e : p ≠ q := fun z => h2 (by rw [z])
      have h3 : ¬ (p.den : Int) = q.den := by omega
      simp [B_Ratio___eq__, mkB, b_Ratio___eq__, kO, h, h3, e]
  · have e : p ≠ q := fun z => h (by rw [z])
    simp [B_Ratio___eq__, mkB, b_Ratio___eq__, kO, h, e]
theorem eq_int (p : Rat) (i : Int) : B_Ratio___eq__ [rt p, .int i] = .ok (.bl (decide (p = i))) [none, none] := by
  by_cases h2 : p.den = 1
  · by_cases h : p.num = i
    · have e : p = (i : Rat) := Rat.ext h h2
      simp [B_Ratio___eq__, mkB, b_Ratio___eq__, kO, tyN, B_int, h, h2, e]
    · have e : p ≠ (i : Rat) := fun z => h (by rw [z]; rfl)
      simp [B_Ratio___eq__, mkB, b_Ratio___eq__, kO, tyN, B_int, h, h2, e]
  · have e : p ≠ (i : Rat) := fun z => h2 (by rw [z]; rfl)
    have h3 : (p.den : Int) ≠ 1 := by omega
    simp [B_Ratio___eq__, mkB, b_Ratio___eq__, kO, tyN, B_int, h2, h3, e]
theorem below_ok {k : Nat} {p q : Rat} (hp : Bd k p) (hq : Bd k q) (h0 : 0 < k) (hk : k ≤ 3000) : B_Ratio_is_below [rt p, rt q] = .ok (.bl (decide (p < q))) [none, none] := by
  have f := from_rt q (.str "other")
  have a := sub_ok hp hq h0 hk
  have s := sign_ok (p - q)
  have e : (p - q).num.sign < 0 ↔ p < q := by
    have h1 : (p - q).num.sign < 0 ↔ (p - q).num < 0 := ⟨fun z => Int.sign_eq_neg_one_iff_neg.mp (by have := Int.sign_trichotomy (p - q).num; omega), fun z => by rw [Int.sign_eq_neg_one_of_neg z]; omega⟩
    rw [h1, ← Int.not_le, Rat.num_nonneg, Rat.not_le]
    constructor
    · intro z
      grind
    · intro z
      grind
  simp [B_Ratio_is_below, mkB, b_Ratio_is_below, f, oW, rk, a, s, e]
@[simp] theorem is_ratio_rt (q : Rat) : B_is_ratio [rt q] = .ok (.bl true) [none] := by
  simp [B_is_ratio, mkB, b_is_ratio, kO]
@[simp] theorem is_ratio_int (i : Int) : B_is_ratio [.int i] = .ok (.bl true) [none] := by
  simp [B_is_ratio, mkB, b_is_ratio, kO, tyN, B_int]
end Kw

namespace Kw
open PySem PySem.Spec PyProof.Rows L2 Z
def AllB (k : Nat) (xs : List Rat) : Prop := ∀ x ∈ xs, Bd k x
@[simp] theorem listed_lst (l : List D) : B_is_listed [.lst l] = .ok (.bl true) [none] := by
  simp [B_is_listed, mkB, b_is_listed, kAny, kT, tyN]
theorem three {xs : List Rat} (h : xs.length ≤ 3) (h1 : 1 ≤ xs.length) : (∃ a, xs = [a]) ∨ (∃ a b, xs = [a, b]) ∨ ∃ a b c, xs = [a, b, c] := by
  match xs, h, h1 with
  | [a], _, _ => exact .inl ⟨a, rfl⟩
  | [a, b], _, _ => exact .inr (.inl ⟨a, b, rfl⟩)
  | [a, b, c], _, _ => exact .inr (.inr ⟨a, b, c, rfl⟩)
theorem are_ok {xs : List Rat} (h : xs.length ≤ 3) (h1 : 1 ≤ xs.length) : B_are_ratios [.lst (xs.map rt)] = .ok (.bl true) [none] := by
  rcases three h h1 with ⟨a, rfl⟩ | ⟨a, b, rfl⟩ | ⟨a, b, c, rfl⟩ <;>
  simp [B_are_ratios, mkB, b_are_ratios, itemsOf, big, lcGo, lcOut, wipeE, backE, pAll, lisOf, toBls]
theorem new0 : B_Ratio___init__ [.ob 0 [], .int 0, .int 1] = .ok .non [some (rt 0), none, none] := by
  have z := B_ratio (n := 0) (d := 1) (by omega) (by decide)
  rwa [Rat.zero_divInt] at z
theorem Bd.zero {k : Nat} (h : 0 < k) : Bd k 0 := by
  have : 1 < 2 ^ k := Nat.one_lt_two_pow (by omega)
  exact ⟨by show (0 : Int).natAbs < _; simp; omega, this⟩
theorem summed_ok {xs : List Rat} {k : Nat} (h : xs.length ≤ 3) (h1 : 1 ≤ xs.length) (hb : AllB k xs) (h0 : 0 < k) (hk : k ≤ 700) : B_summed [.lst (xs.map rt)] = .ok (rt (xs.foldl (· + ·) 0)) [none] := by
  have ar := are_ok h h1
  rcases three h h1 with ⟨a, rfl⟩ | ⟨a, b, rfl⟩ | ⟨a, b, c, rfl⟩
  · have e1 := add_ok (Bd.zero h0) (hb a (by simp)) h0 (by omega)
    simp at ar e1
    simp [B_summed, mkB, b_summed, itemsOf, ar, new0, forGo, oW, rk, e1]
  · have b1 := (Bd.zero h0).add (hb a (by simp))
    have e1 := add_ok (Bd.zero h0) (hb a (by simp)) h0 (by omega)
    have e2 := add_ok b1 ((hb b (by simp)).mono (by omega : k ≤ 2 * k + 1)) (by omega) (by omega)
    simp at ar e1 e2
    simp [B_summed, mkB, b_summed, itemsOf, ar, new0, forGo, oW, rk, e1, e2]
  · have b1 := (Bd.zero h0).add (hb a (by simp))
    have b2 := b1.add ((hb b (by simp)).mono (by omega : k ≤ 2 * k + 1))
    have e1 := add_ok (Bd.zero h0) (hb a (by simp)) h0 (by omega)
    have e2 := add_ok b1 ((hb b (by simp)).mono (by omega : k ≤ 2 * k + 1)) (by omega) (by omega)
    have e3 := add_ok b2 ((hb c (by simp)).mono (by omega : k ≤ 2 * (2 * k + 1) + 1)) (by omega) (by omega)
    simp at ar e1 e2 e3
    simp [B_summed, mkB, b_summed, itemsOf, ar, new0, forGo, oW, rk, e1, e2, e3]
end Kw

namespace Kw
open PySem PySem.Spec PyProof.Rows L2 Z
def dot (t : Rat) (xs : List Rat) (u : Rat) (ys : List Rat) : Rat := t * u - (List.zipWith (· * ·) xs ys).foldl (· + ·) 0
theorem AllB.cons {k : Nat} {x : Rat} {xs : List Rat} (h : Bd k x) (t : AllB k xs) : AllB k (x :: xs) := fun y m => by
  rcases List.mem_cons.mp m with e | m
  · rw [e]; exact h
  · exact t y m
theorem AllB.nil {k : Nat} : AllB k [] := fun _ m => nomatch m
theorem sum_bd {k : Nat} {xs : List Rat} (h : xs.length ≤ 3) (h0 : 0 < k) (hb : AllB k xs) : Bd (8 * k + 7) (xs.foldl (· + ·) 0) := by
  match xs, h, hb with
  | [], _, _ => exact Bd.zero (by omega)
  | [a], _, hb => exact ((Bd.zero h0).add (hb a (by simp))).mono (by omega)
  | [a, b], _, hb => exact (((Bd.zero h0).add (hb a (by simp))).add ((hb b (by simp)).mono (by omega : k ≤ 2 * k + 1))).mono (by omega)
  | [a, b, c], _, hb => exact ((((Bd.zero h0).add (hb a (by simp))).add ((hb b (by simp)).mono (by omega : k ≤ 2 * k + 1))).add ((hb c (by simp)).mono (by omega : k ≤ 2 * (2 * k + 1) + 1))).mono (by omega)
theorem zip_bd {k : Nat} : ∀ {xs ys : List Rat}, AllB k xs → AllB k ys → AllB (2 * k + 1) (List.zipWith (· * ·) xs ys)
  | [], _, _, _ => by simp [AllB]
  | _ :: _, [], _, _ => by simp [AllB]
  | x :: xs, y :: ys, hx, hy => .cons ((hx x (by simp)).mul (hy y (by simp))) (zip_bd (fun z m => hx z (List.mem_cons_of_mem _ m)) fun z m => hy z (List.mem_cons_of_mem _ m))
theorem dot_bd {k : Nat} {t u : Rat} {xs ys : List Rat} (h : xs.length ≤ 3) (ht : Bd k t) (hu : Bd k u) (hx : AllB k xs) (hy : AllB k ys) : Bd (32 * k + 31) (dot t xs u ys) := by
  have s := sum_bd (xs := List.zipWith (· * ·) xs ys) (by simp; omega) (by omega) (zip_bd hx hy)
  exact (((ht.mul hu).mono (by omega : 2 * k + 1 ≤ 16 * k + 15)).sub (s.mono (by omega))).mono (by omega)
theorem product_ok {k : Nat} {t u : Rat} {xs ys : List Rat} {l m : List D} (h : xs.length ≤ 3) (h1 : 1 ≤ xs.length) (e : ys.length = xs.length) (ht : Bd k t) (hu : Bd k u) (hx : AllB k xs) (hy : AllB k ys) (h0 : 0 < k) (hk : k ≤ 80) :
    B_product_at [.ob 1 (rt t :: .tup (xs.map rt) :: l), .ob 1 (rt u :: .tup (ys.map rt) :: m)] = .ok (rt (dot t xs u ys)) [none, none] := by
  have sm := summed_ok (xs := List.zipWith (· * ·) xs ys) (k := 2 * k + 1) (by simp; omega) (by simp; omega) (zip_bd hx hy) (by omega) (by omega)
  have sb := sum_bd (xs := List.zipWith (· * ·) xs ys) (by simp; omega) (by omega) (zip_bd hx hy)
  have m0 := mul_ok ht hu h0 (by omega)
  have d0 := sub_ok ((ht.mul hu).mono (by omega : 2 * k + 1 ≤ 16 * k + 15)) (sb.mono (by omega : 8 * (2 * k + 1) + 7 ≤ 16 * k + 15)) (by omega) (by omega)
  rcases three h h1 with ⟨a, rfl⟩ | ⟨a, b, rfl⟩ | ⟨a, b, c, rfl⟩
  · match ys, e, hy with
    | [a'], _, hy =>
      have m1 := mul_ok (hx a (by simp)) (hy a' (by simp)) h0 (by omega)
      simp at sm
      simp [B_product_at, mkB, b_product_at, oW, rk, m0, m1, pZip, itemsOf, isTupD, zipD, big, lcGo, lcOut, wipeE, backE, gTs, sm]
      simp at d0
      simp [d0, dot]
  · match ys, e, hy with
    | [a', b'], _, hy =>
      have m1 := mul_ok (hx a (by simp)) (hy a' (by simp)) h0 (by omega)
      have m2 := mul_ok (hx b (by simp)) (hy b' (by simp)) h0 (by omega)
      simp at sm
      simp [B_product_at, mkB, b_product_at, oW, rk, m0, m1, m2, pZip, itemsOf, isTupD, zipD, big, lcGo, lcOut, wipeE, backE, gTs, sm]
      simp at d0
      simp [d0, dot]
  · match ys, e, hy with
    | [a', b', c'], _, hy =>
      have m1 := mul_ok (hx a (by simp)) (hy a' (by simp)) h0 (by omega)
      have m2 := mul_ok (hx b (by simp)) (hy b' (by simp)) h0 (by omega)
      have m3 := mul_ok (hx c (by simp)) (hy c' (by simp)) h0 (by omega)
      simp at sm
      simp [B_product_at, mkB, b_product_at, oW, rk, m0, m1, m2, m3, pZip, itemsOf, isTupD, zipD, big, lcGo, lcOut, wipeE, backE, gTs, sm]
      simp at d0
      simp [d0, dot]
def knd (t s : Rat) : Str := if s < 0 then "apart" else if t = 0 then "nothing" else if 0 < t then "forward" else "backward"
theorem sg_neg (p : Rat) : p.num.sign < 0 ↔ p < 0 := by
  rw [← Rat.not_le, ← Rat.num_nonneg, Int.not_le]
  exact ⟨fun z => Int.sign_eq_neg_one_iff_neg.mp (by have := Int.sign_trichotomy p.num; omega), fun z => by rw [Int.sign_eq_neg_one_of_neg z]; omega⟩
theorem sg_zero (p : Rat) : p.num.sign = 0 ↔ p = 0 := by
  rw [Int.sign_eq_zero_iff_zero]
  exact Rat.num_eq_zero
theorem sg_pos (p : Rat) : 0 < p.num.sign ↔ 0 < p := by
  have h1 := sg_neg p
  have h2 := sg_zero p
  constructor
  · intro z
    have a : ¬ p < 0 := fun q => by have := h1.mpr q; omega
    have b : ¬ p = 0 := fun q => by have := h2.mpr q; omega
    grind
  · intro z
    have a : ¬ p.num.sign < 0 := fun q => by have := h1.mp q; grind
    have b : ¬ p.num.sign = 0 := fun q => by have := h2.mp q; grind
    omega
theorem nm_neg (p : Rat) : p.num < 0 ↔ p < 0 := by
  rw [← Int.not_le, Rat.num_nonneg, Rat.not_le]
theorem nm_pos (p : Rat) : 0 < p.num ↔ 0 < p := by
  have h := Rat.num_nonneg (q := p)
  have h2 := nm_neg p
  have h3 : p.num = 0 ↔ p = 0 := Rat.num_eq_zero
  constructor
  · intro z
    have : ¬ p = 0 := fun q => by have := h3.mpr q; omega
    have : 0 ≤ p := h.mp (by omega)
    grind
  · intro z
    have : ¬ p.num = 0 := fun q => by have := h3.mp q; grind
    have : 0 ≤ p.num := h.mpr (by grind)
    omega
theorem kind_ok (t s : Rat) : B_kind_by [rt t, rt s] = .ok (.str (knd t s)) [none, none] := by
  unfold knd
  by_cases h1 : s < 0
  · simp [B_kind_by, mkB, b_kind_by, sign_ok, nm_neg, h1]
  · by_cases h2 : t = 0
    · simp [B_kind_by, mkB, b_kind_by, sign_ok, nm_neg, h1, h2]
    · by_cases h3 : 0 < t
      · simp [B_kind_by, mkB, b_kind_by, sign_ok, nm_neg, nm_pos, h1, h2, h3]
      · simp [B_kind_by, mkB, b_kind_by, sign_ok, nm_neg, nm_pos, h1, h2, h3]
/-- a Step as a tree -/
def sl (t : Rat) (xs : List Rat) : List D := [rt t, .tup (xs.map rt), .int (xs.length : Nat), rt (dot t xs t xs), .str (knd t (dot t xs t xs))]
abbrev stp (t : Rat) (xs : List Rat) : D := .ob 1 (sl t xs)
@[simp] theorem sl_0 (t : Rat) (xs : List Rat) : (sl t xs)[0]? = some (rt t) := rfl
@[simp] theorem sl_1 (t : Rat) (xs : List Rat) : (sl t xs)[1]? = some (.tup (xs.map rt)) := rfl
@[simp] theorem sl_2 (t : Rat) (xs : List Rat) : (sl t xs)[2]? = some (.int (xs.length : Nat)) := rfl
@[simp] theorem sl_3 (t : Rat) (xs : List Rat) : (sl t xs)[3]? = some (rt (dot t xs t xs)) := rfl
@[simp] theorem sl_4 (t : Rat) (xs : List Rat) : (sl t xs)[4]? = some (.str (knd t (dot t xs t xs))) := rfl
@[simp] theorem of_rt (q : Rat) : B_Ratio_of [rt q] = .ok (rt q) [none] := by
  simp [B_Ratio_of, mkB, b_Ratio_of]
theorem step_ok {k : Nat} {t : Rat} {xs : List Rat} (h : xs.length ≤ 3) (h1 : 1 ≤ xs.length) (ht : Bd k t) (hx : AllB k xs) (h0 : 0 < k) (hk : k ≤ 80) : B_Step___init__ [.ob 1 [], rt t, .lst (xs.map rt)] = .ok .non [some (stp t xs), none, none] := by
  have ar := are_ok h h1
  have pr := product_ok (l := [.int (xs.length : Nat)]) (m := [.int (xs.length : Nat)]) h h1 rfl ht ht hx hx h0 hk
  have kd := kind_ok t (dot t xs t xs)
  rcases three h h1 with ⟨a, rfl⟩ | ⟨a, b, rfl⟩ | ⟨a, b, c, rfl⟩ <;>
  (simp only [List.map_cons, List.map_nil, List.length_cons, List.length_nil] at ar pr
   generalize hd : dot t _ t _ = dd at pr kd
   simp at ar pr
   simp [B_Step___init__, mkB, b_Step___init__, ar, onBl, pLen, itemsOf, big, lcGo, lcOut, wipeE, backE, pTuple, pr, kd, sl, hd])
end Kw

namespace Kw
open PySem PySem.Spec PyProof.Rows L2 Z
@[simp] theorem look_one {α : Type} (a b : α) : List.lookup (1 : Nat) [(0, a), (1, b)] = some b := rfl
@[simp] theorem look_nil {α : Type} (a b : α) : List.lookup (0 : Nat) [(0, a), (1, b)] = some a := rfl
theorem mul_int_ok {k : Nat} {p : Rat} {i : Int} (hp : Bd k p) (hi : i.natAbs < 2 ^ k) (h0 : 0 < k) (hk : k ≤ 3000) : B_Ratio___mul__ [rt p, .int i] = .ok (rt (p * i)) [none, none] := by
  have hpd : (p.den : Int).natAbs < 2 ^ k := by simpa using hp.2
  have z := B_ratio (n := p.num * i) (d := p.den) (den_pos p) (Nat.lt_of_lt_of_le hpd (Nat.pow_le_pow_right (by omega) (by omega)))
  have e : Rat.divInt (p.num * i) p.den = p * i := by
    have := mul_eq p (i : Rat)
    simpa using this.symm
  rw [e] at z
  have m1 := pMul_int (mulB_both hp.1 hi h0 h0 (by omega) (by omega))
  have m3 : pMul (.int p.den) (.int 1) = some (.int p.den) := by
    rw [pMul_int (mulB_right (by decide)), Int.mul_one]
  have f := from_int i (.str "other")
  have r0 : (rl (i : Rat))[0]? = some (.int i) := rfl
  have r1 : (rl (i : Rat))[1]? = some (.int 1) := rfl
  simp [B_Ratio___mul__, mkB, b_Ratio___mul__, f, r0, r1, m1, m3, z]
@[simp] theorem need_step_ok (t : Rat) (xs : List Rat) (d : D) : B_need_step [stp t xs, d] = .ok .non [none, none] := by
  simp [B_need_step, mkB, b_need_step, kO]
theorem need_axes_ok {t u : Rat} {xs ys : List Rat} (e : ys.length = xs.length) : B_need_axes [stp t xs, stp u ys] = .ok .non [none, none] := by
  simp [B_need_axes, mkB, b_need_axes, e]
theorem product_of_ok {k : Nat} {t u : Rat} {xs ys : List Rat} (h : xs.length ≤ 3) (h1 : 1 ≤ xs.length) (e : ys.length = xs.length) (ht : Bd k t) (hu : Bd k u) (hx : AllB k xs) (hy : AllB k ys) (h0 : 0 < k) (hk : k ≤ 80) :
    B_product_of [stp t xs, stp u ys] = .ok (rt (dot t xs u ys)) [none, none] := by
  have p : B_product_at [stp t xs, stp u ys] = .ok (rt (dot t xs u ys)) [none, none] := product_ok h h1 e ht hu hx hy h0 hk
  simp [B_product_of, mkB, b_product_of, need_axes_ok e, p]
theorem zip_add_bd {k : Nat} : ∀ {xs ys : List Rat}, AllB k xs → AllB k ys → AllB (2 * k + 1) (List.zipWith (· + ·) xs ys)
  | [], _, _, _ => by simp [AllB]
  | _ :: _, [], _, _ => by simp [AllB]
  | x :: xs, y :: ys, hx, hy => .cons ((hx x (by simp)).add (hy y (by simp))) (zip_add_bd (fun z m => hx z (List.mem_cons_of_mem _ m)) fun z m => hy z (List.mem_cons_of_mem _ m))
theorem neg_bd {k : Nat} {xs : List Rat} (h : AllB k xs) : AllB k (xs.map (- ·)) := fun y m => by
  obtain ⟨x, hx, rfl⟩ := List.mem_map.mp m
  exact (h x hx).neg
theorem step_add {k : Nat} {t u : Rat} {xs ys : List Rat} (h : xs.length ≤ 3) (h1 : 1 ≤ xs.length) (e : ys.length = xs.length) (ht : Bd k t) (hu : Bd k u) (hx : AllB k xs) (hy : AllB k ys) (h0 : 0 < k) (hk : k ≤ 35) :
    B_Step___add__ [stp t xs, stp u ys] = .ok (stp (t + u) (List.zipWith (· + ·) xs ys)) [none, none] := by
  have a0 := add_ok ht hu h0 (by omega)
  have st := step_ok (t := t + u) (xs := List.zipWith (· + ·) xs ys) (k := 2 * k + 1) (by simp; omega) (by simp; omega) (ht.add hu) (zip_add_bd hx hy) (by omega) (by omega)
  have na := need_axes_ok (t := t) (u := u) e
  rcases three h h1 with ⟨a, rfl⟩ | ⟨a, b, rfl⟩ | ⟨a, b, c, rfl⟩
  · match ys, e, hy with
    | [a'], _, hy =>
      have a1 := add_ok (hx a (by simp)) (hy a' (by simp)) h0 (by omega)
      simp at st
      simp [B_Step___add__, mkB, b_Step___add__, na, oW, rk, a0, a1, pZip, itemsOf, isTupD, zipD, big, lcGo, lcOut, wipeE, backE, gTs, st]
  · match ys, e, hy with
    | [a', b'], _, hy =>
      have a1 := add_ok (hx a (by simp)) (hy a' (by simp)) h0 (by omega)
      have a2 := add_ok (hx b (by simp)) (hy b' (by simp)) h0 (by omega)
      simp at st
      simp [B_Step___add__, mkB, b_Step___add__, na, oW, rk, a0, a1, a2, pZip, itemsOf, isTupD, zipD, big, lcGo, lcOut, wipeE, backE, gTs, st]
  · match ys, e, hy with
    | [a', b', c'], _, hy =>
      have a1 := add_ok (hx a (by simp)) (hy a' (by simp)) h0 (by omega)
      have a2 := add_ok (hx b (by simp)) (hy b' (by simp)) h0 (by omega)
      have a3 := add_ok (hx c (by simp)) (hy c' (by simp)) h0 (by omega)
      simp at st
      simp [B_Step___add__, mkB, b_Step___add__, na, oW, rk, a0, a1, a2, a3, pZip, itemsOf, isTupD, zipD, big, lcGo, lcOut, wipeE, backE, gTs, st]
theorem step_neg {k : Nat} {t : Rat} {xs : List Rat} (h : xs.length ≤ 3) (h1 : 1 ≤ xs.length) (ht : Bd k t) (hx : AllB k xs) (h0 : 0 < k) (hk : k ≤ 80) : B_Step___neg__ [stp t xs] = .ok (stp (-t) (xs.map (- ·))) [none] := by
  have st := step_ok (t := -t) (xs := xs.map (- ·)) (by simpa using h) (by simpa using h1) ht.neg (neg_bd hx) h0 hk
  have n0 := neg_ok ht (by omega)
  rcases three h h1 with ⟨a, rfl⟩ | ⟨a, b, rfl⟩ | ⟨a, b, c, rfl⟩
  · have n1 := neg_ok (hx a (by simp)) (by omega)
    simp only [List.map_cons, List.map_nil] at st
    simp [B_Step___neg__, mkB, b_Step___neg__, oC1, n0, n1, itemsOf, big, lcGo, lcOut, wipeE, backE, st]
  · have n1 := neg_ok (hx a (by simp)) (by omega)
    have n2 := neg_ok (hx b (by simp)) (by omega)
    simp only [List.map_cons, List.map_nil] at st
    simp [B_Step___neg__, mkB, b_Step___neg__, oC1, n0, n1, n2, itemsOf, big, lcGo, lcOut, wipeE, backE, st]
  · have n1 := neg_ok (hx a (by simp)) (by omega)
    have n2 := neg_ok (hx b (by simp)) (by omega)
    have n3 := neg_ok (hx c (by simp)) (by omega)
    simp only [List.map_cons, List.map_nil] at st
    simp [B_Step___neg__, mkB, b_Step___neg__, oC1, n0, n1, n2, n3, itemsOf, big, lcGo, lcOut, wipeE, backE, st]
theorem step_sub {k : Nat} {t u : Rat} {xs ys : List Rat} (h : xs.length ≤ 3) (h1 : 1 ≤ xs.length) (e : ys.length = xs.length) (ht : Bd k t) (hu : Bd k u) (hx : AllB k xs) (hy : AllB k ys) (h0 : 0 < k) (hk : k ≤ 35) :
    B_Step___sub__ [stp t xs, stp u ys] = .ok (stp (t + -u) (List.zipWith (· + ·) xs (ys.map (- ·)))) [none, none] := by
  have n := step_neg (t := u) (xs := ys) (by omega) (by omega) hu hy h0 (by omega)
  have a := step_add h h1 (by simpa using e) ht hu.neg hx (neg_bd hy) h0 hk
  simp [B_Step___sub__, mkB, b_Step___sub__, oC1, n, oW, rk, a]
theorem mulc_bd {k : Nat} {q : Rat} {xs : List Rat} (h : AllB k xs) (hq : Bd k q) : AllB (2 * k + 1) (xs.map (· * q)) := fun y m => by
  obtain ⟨x, hx, rfl⟩ := List.mem_map.mp m
  exact (h x hx).mul hq
theorem step_mul {k : Nat} {t q : Rat} {xs : List Rat} {d : D} (h : xs.length ≤ 3) (h1 : 1 ≤ xs.length) (ht : Bd k t) (hx : AllB k xs) (hq : Bd k q) (h0 : 0 < k) (hk : k ≤ 35) (hd : rk ["int"] [0, 1] d = true) (hr : B_is_ratio [d] = .ok (.bl true) [none]) (hm : ∀ p, Bd k p → B_Ratio___mul__ [rt p, d] = .ok (rt (p * q)) [none, none]) :
    B_Step___mul__ [stp t xs, d] = .ok (stp (t * q) (xs.map (· * q))) [none, none] := by
  have st := step_ok (t := t * q) (xs := xs.map (· * q)) (k := 2 * k + 1) (by simpa using h) (by simpa using h1) (ht.mul hq) (mulc_bd hx hq) (by omega) (by omega)
  have m0 := hm t ht
  rcases three h h1 with ⟨a, rfl⟩ | ⟨a, b, rfl⟩ | ⟨a, b, c, rfl⟩
  · have m1 := hm a (hx a (by simp))
    simp only [List.map_cons, List.map_nil] at st
    simp [B_Step___mul__, mkB, b_Step___mul__, hr, oW, hd, m0, m1, itemsOf, big, lcGo, lcOut, wipeE, backE, st]
  · have m1 := hm a (hx a (by simp))
    have m2 := hm b (hx b (by simp))
    simp only [List.map_cons, List.map_nil] at st
    simp [B_Step___mul__, mkB, b_Step___mul__, hr, oW, hd, m0, m1, m2, itemsOf, big, lcGo, lcOut, wipeE, backE, st]
  · have m1 := hm a (hx a (by simp))
    have m2 := hm b (hx b (by simp))
    have m3 := hm c (hx c (by simp))
    simp only [List.map_cons, List.map_nil] at st
    simp [B_Step___mul__, mkB, b_Step___mul__, hr, oW, hd, m0, m1, m2, m3, itemsOf, big, lcGo, lcOut, wipeE, backE, st]
theorem pEq_obs (q p : Rat) (l m : List D) : pEq (.tup (rt q :: l)) (.tup (rt p :: m)) = none := by
  simp [pEq, pEqB, toP, toPs]
theorem step_eq {t : Rat} {xs : List Rat} (h : xs.length ≤ 3) (h1 : 1 ≤ xs.length) : B_Step___eq__ [stp t xs, stp t xs] = .ok (.bl true) [none, none] := by
  have e0 := eq_ok t t
  rcases three h h1 with ⟨a, rfl⟩ | ⟨a, b, rfl⟩ | ⟨a, b, c, rfl⟩
  · have e1 := eq_ok a a
    simp [B_Step___eq__, mkB, b_Step___eq__, kO, oET, oW, rk, e0, pEq_obs, allT, eqI, okB, isT, e1]
  · have e1 := eq_ok a a
    have e2 := eq_ok b b
    simp [B_Step___eq__, mkB, b_Step___eq__, kO, oET, oW, rk, e0, pEq_obs, allT, eqI, okB, isT, e1, e2]
  · have e1 := eq_ok a a
    have e2 := eq_ok b b
    have e3 := eq_ok c c
    simp [B_Step___eq__, mkB, b_Step___eq__, kO, oET, oW, rk, e0, pEq_obs, allT, eqI, okB, isT, e1, e2, e3]
end Kw

namespace Kw
open PySem PySem.Spec PyProof.Rows L2 Z
theorem cut_one (x : D) (l : List D) : Z.cutD (x :: l) (some 1) none = l := by
  unfold Z.cutD HT.sIx
  simp
@[simp] theorem sl_one (x : D) (l : List D) : pSl (.lst (x :: l)) (some 1) none = some (.lst l) := by
  show some (D.lst (Z.cutD (x :: l) (some 1) none)) = _
  rw [cut_one]
@[simp] theorem ix_lst0 (x : D) (l : List D) : pIx (.lst (x :: l)) (.int 0) = some x := by
  simp [pIx, atI, ixN]
def fr (b n : Int) : Rat := Rat.divInt n b
/-- the numbers of a plain step -/
abbrev nl (n0 : Int) (rest : List Int) : D := .lst (.int n0 :: rest.map D.int)
theorem three' {xs : List Int} (h : xs.length ≤ 3) (h1 : 1 ≤ xs.length) : (∃ a, xs = [a]) ∨ (∃ a b, xs = [a, b]) ∨ ∃ a b c, xs = [a, b, c] := by
  match xs, h, h1 with
  | [a], _, _ => exact .inl ⟨a, rfl⟩
  | [a, b], _, _ => exact .inr (.inl ⟨a, b, rfl⟩)
  | [a, b, c], _, _ => exact .inr (.inr ⟨a, b, c, rfl⟩)
/-- numbers and a bottom of less than k bits -/
structure Ok (k : Nat) (b n0 : Int) (rest : List Int) : Prop where
  le : rest.length ≤ 3
  ge : 1 ≤ rest.length
  pos : 0 < b
  bb : b.natAbs < 2 ^ k
  nb : n0.natAbs < 2 ^ k
  rb : ∀ n ∈ rest, n.natAbs < 2 ^ k
theorem Ok.bd {k : Nat} {b n0 : Int} {rest : List Int} (h : Ok k b n0 rest) : Bd k (fr b n0) := Bd.of h.pos h.nb h.bb
theorem Ok.all {k : Nat} {b n0 : Int} {rest : List Int} (h : Ok k b n0 rest) : AllB k (rest.map (fr b)) := fun y m => by
  obtain ⟨n, hn', rfl⟩ := List.mem_map.mp m
  exact Bd.of h.pos (h.rb n hn') h.bb
theorem made_ok {n0 b : Int} {rest : List Int} {k : Nat} (h : Ok k b n0 rest) (h0 : 0 < k) (hk : k ≤ 80) :
    B__law_made [.tup [nl n0 rest, .int b]] = .ok (stp (fr b n0) (rest.map (fr b))) [none] := by
  have hlt : b.natAbs < 2 ^ 7000 := Nat.lt_of_lt_of_le h.bb (Nat.pow_le_pow_right (by omega) (by omega))
  have r0 := B_ratio (n := n0) h.pos hlt
  have st := step_ok (t := fr b n0) (xs := rest.map (fr b)) (k := k) (by simpa using h.le) (by simpa using h.ge) h.bd h.all h0 hk
  rcases three' h.le h.ge with ⟨a, rfl⟩ | ⟨a, c, rfl⟩ | ⟨a, c, d, rfl⟩
  · have r1 := B_ratio (n := a) h.pos hlt
    simp only [List.map_cons, List.map_nil, fr] at st
    simp [B__law_made, mkB, b__law_made, gTs, itemsOf, r0, big, lcGo, lcOut, wipeE, backE, r1, fr, st]
  · have r1 := B_ratio (n := a) h.pos hlt
    have r2 := B_ratio (n := c) h.pos hlt
    simp only [List.map_cons, List.map_nil, fr] at st
    simp [B__law_made, mkB, b__law_made, gTs, itemsOf, r0, big, lcGo, lcOut, wipeE, backE, r1, r2, fr, st]
  · have r1 := B_ratio (n := a) h.pos hlt
    have r2 := B_ratio (n := c) h.pos hlt
    have r3 := B_ratio (n := d) h.pos hlt
    simp only [List.map_cons, List.map_nil, fr] at st
    simp [B__law_made, mkB, b__law_made, gTs, itemsOf, r0, big, lcGo, lcOut, wipeE, backE, r1, r2, r3, fr, st]
theorem is_ok {a b : Int} {k : Nat} (hb : 0 < b) (ha : a.natAbs < 2 ^ k) (hbk : b.natAbs < 2 ^ k) (h0 : 0 < k) (hk : k ≤ 400000) : B__law_is [rt (Rat.divInt a b), .int a, .int b] = .ok (.bl true) [none, none, none] := by
  have bd := Bd.of hb ha hbk
  have hd : ((Rat.divInt a b).den : Int).natAbs < 2 ^ k := by simpa using bd.2
  have m1 := pMul_int (mulB_both bd.1 hbk h0 h0 hk hk)
  have m2 := pMul_int (mulB_both ha hd h0 h0 hk hk)
  have e : (Rat.divInt a b).num * b = a * (Rat.divInt a b).den := by
    have z : Rat.divInt (Rat.divInt a b).num (Rat.divInt a b).den = Rat.divInt a b := divInt_self _
    exact (Rat.divInt_eq_divInt_iff (by have := den_pos (Rat.divInt a b); omega) (by omega)).mp z
  have dp := (Rat.divInt a b).den_pos
  simp [B__law_is, mkB, b__law_is, kO, m1, m2, e, dp]
def tms (n0 : Int) (xs : List Int) (m0 : Int) (ys : List Int) : Int := n0 * m0 - (List.zipWith (· * ·) xs ys).sum
theorem times_ok {n0 m0 : Int} {xs ys : List Int} (hx : xs.length ≤ 3) (h1 : 1 ≤ xs.length) (e : ys.length = xs.length) (hn : n0.natAbs < 2 ^ 60) (hr : ∀ n ∈ xs, n.natAbs < 2 ^ 60) :
    B__law_times [nl n0 xs, nl m0 ys] = .ok (.int (tms n0 xs m0 ys)) [none, none] := by
  have m := pMul_int (mulB_left (j := m0) hn)
  rcases three' hx h1 with ⟨a, rfl⟩ | ⟨a, c, rfl⟩ | ⟨a, c, d, rfl⟩
  · match ys, e with
    | [a'], _ =>
      have m1 := pMul_int (mulB_left (j := a') (hr a (by simp)))
      simp [B__law_times, mkB, b__law_times, m, pZip, itemsOf, isTupD, zipD, big, lcGo, lcOut, wipeE, backE, gTs, m1, pSum, lisOf, toInts, tms]
  · match ys, e with
    | [a', c'], _ =>
      have m1 := pMul_int (mulB_left (j := a') (hr a (by simp)))
      have m2 := pMul_int (mulB_left (j := c') (hr c (by simp)))
      simp [B__law_times, mkB, b__law_times, m, pZip, itemsOf, isTupD, zipD, big, lcGo, lcOut, wipeE, backE, gTs, m1, m2, pSum, lisOf, toInts, tms]
  · match ys, e with
    | [a', c', d'], _ =>
      have m1 := pMul_int (mulB_left (j := a') (hr a (by simp)))
      have m2 := pMul_int (mulB_left (j := c') (hr c (by simp)))
      have m3 := pMul_int (mulB_left (j := d') (hr d (by simp)))
      simp [B__law_times, mkB, b__law_times, m, pZip, itemsOf, isTupD, zipD, big, lcGo, lcOut, wipeE, backE, gTs, m1, m2, m3, pSum, lisOf, toInts, tms]
def kndI (n s : Int) : Str := if s < 0 then "apart" else if n = 0 then "nothing" else if 0 < n then "forward" else "backward"
theorem kindI_ok {n0 : Int} {xs : List Int} (hx : xs.length ≤ 3) (h1 : 1 ≤ xs.length) (hn : n0.natAbs < 2 ^ 60) (hr : ∀ n ∈ xs, n.natAbs < 2 ^ 60) : B__law_kind [nl n0 xs] = .ok (.str (kndI n0 (tms n0 xs n0 xs))) [none] := by
  have t := times_ok (m0 := n0) hx h1 rfl hn hr
  unfold kndI
  by_cases a1 : tms n0 xs n0 xs < 0
  · simp [B__law_kind, mkB, b__law_kind, t, a1]
  · by_cases a2 : n0 = 0
    · subst a2
      simp [B__law_kind, mkB, b__law_kind, t, a1]
    · by_cases a3 : 0 < n0 <;> simp [B__law_kind, mkB, b__law_kind, t, a1, a2, a3]
theorem fr_add (d x y : Int) : fr d x + fr d y = fr d (x + y) := by
  unfold fr
  rw [Rat.divInt_eq_div, Rat.divInt_eq_div, Rat.divInt_eq_div, Rat.intCast_add, Rat.div_def, Rat.div_def, Rat.div_def, Rat.add_mul]
theorem fr_neg (d x : Int) : -fr d x = fr d (-x) := Rat.neg_divInt x d
theorem fr_sub (d x y : Int) : fr d x - fr d y = fr d (x - y) := by
  rw [Rat.sub_eq_add_neg, fr_neg, fr_add, Int.sub_eq_add_neg]
theorem fr_mul (b c x y : Int) : fr b x * fr c y = fr (b * c) (x * y) := Rat.divInt_mul_divInt x y
theorem fr_zero (d : Int) : fr d 0 = 0 := Rat.zero_divInt d
theorem fr_up {c : Int} (hc : c ≠ 0) (d x : Int) : fr (d * c) (x * c) = fr d x := Rat.divInt_mul_right hc
theorem dot_fr {b c n0 m0 : Int} {xs ys : List Int} (hx : xs.length ≤ 3) (h1 : 1 ≤ xs.length) (e : ys.length = xs.length) : dot (fr b n0) (xs.map (fr b)) (fr c m0) (ys.map (fr c)) = fr (b * c) (tms n0 xs m0 ys) := by
  unfold dot tms
  rw [← fr_sub, fr_mul]
  congr 1
  rcases three' hx h1 with ⟨a, rfl⟩ | ⟨a, a2, rfl⟩ | ⟨a, a2, a3, rfl⟩
  · match ys, e with
    | [a'], _ => simp [fr_mul, Rat.zero_add]
  · match ys, e with
    | [a', c'], _ => simp [fr_mul, fr_add, Rat.zero_add]
  · match ys, e with
    | [a', c', d'], _ => simp [fr_mul, fr_add, Rat.zero_add, Int.add_assoc]
theorem fr_neg_iff {d x : Int} (hd : 0 < d) : fr d x < 0 ↔ x < 0 := by
  rw [← nm_neg]
  unfold fr
  rw [Rat.num_divInt, Int.sign_eq_one_of_pos hd, Int.one_mul]
  have hg : (0 : Int) < (Int.gcd d x : Nat) := by
    have : Int.gcd d x ≠ 0 := fun z => by
      have := Int.gcd_eq_zero_iff.mp z
      omega
    omega
  constructor
  · intro z
    exact Int.not_le.mp fun q => by
      have := Int.ediv_nonneg q (Int.le_of_lt hg)
      omega
  · intro z
    exact Int.ediv_neg_of_neg_of_pos z hg
theorem fr_zero_iff {d x : Int} (hd : 0 < d) : fr d x = 0 ↔ x = 0 := by
  rw [← fr_zero d]
  unfold fr
  rw [Rat.divInt_eq_divInt_iff (by omega) (by omega), Int.zero_mul]
  constructor
  · intro z
    rcases Int.mul_eq_zero.mp z with q | q
    · exact q
    · omega
  · intro z
    rw [z, Int.zero_mul]
theorem kinds {b n s : Int} {c : Int} (hb : 0 < b) (hc : 0 < c) : knd (fr b n) (fr c s) = kndI n s := by
  unfold knd kndI
  have h1 := fr_neg_iff (x := s) hc
  have h2 := fr_zero_iff (x := n) hb
  have h3 := fr_neg_iff (x := n) hb
  have h4 : 0 < fr b n ↔ 0 < n := by
    constructor
    · intro z
      have a : ¬ n < 0 := fun q => by have := h3.mpr q; grind
      have c : ¬ n = 0 := fun q => by have := h2.mpr q; grind
      omega
    · intro z
      have a : ¬ fr b n < 0 := fun q => by have := h3.mp q; omega
      have c : ¬ fr b n = 0 := fun q => by have := h2.mp q; omega
      grind
  simp only [h1, h2, h4]
theorem kndI_ok (n s : Int) : PyData.strOk (kndI n s) = true := by
  unfold kndI
  split
  · decide +kernel
  · split
    · decide +kernel
    · split <;> decide +kernel
@[simp] theorem ix_tup (l : List D) (i : Nat) : pIx (.tup l) (.int (i : Nat)) = l[i]? := by
  unfold pIx atI ixN
  by_cases h : i < l.length
  · simp [h]
  · simp [h, List.getElem?_eq_none (Nat.le_of_not_lt h)]
@[simp] theorem ix_tup_0 (x : D) (l : List D) : pIx (.tup (x :: l)) (.int 0) = some x := by
  simp [pIx, atI, ixN]
@[simp] theorem ix_tup_1 (x y : D) (l : List D) : pIx (.tup (x :: y :: l)) (.int 1) = some y := by
  have : (1 : Int) < (l.length : Int) + 1 + 1 := by omega
  simp [pIx, atI, ixN, this]
@[simp] theorem ix_tup_2 (x y z : D) (l : List D) : pIx (.tup (x :: y :: z :: l)) (.int 2) = some z := by
  have : (2 : Int) < (l.length : Int) + 1 + 1 + 1 := by omega
  simp [pIx, atI, ixN, this]
theorem tms_bd {k : Nat} {n0 m0 : Int} {xs ys : List Int} (hx : xs.length ≤ 3) (h1 : 1 ≤ xs.length) (e : ys.length = xs.length) (hn : n0.natAbs < 2 ^ k) (hm : m0.natAbs < 2 ^ k) (hr : ∀ n ∈ xs, n.natAbs < 2 ^ k) (hs : ∀ n ∈ ys, n.natAbs < 2 ^ k) : (tms n0 xs m0 ys).natAbs < 2 ^ (2 * k + 2) := by
  have p0 := abs_mul_lt hn hm
  have ek : 2 ^ (2 * k + 2) = 4 * 2 ^ (k + k) := by
    rw [show 2 * k + 2 = (k + k) + 2 by omega, Nat.pow_add (m := k + k)]
    omega
  rw [ek]
  have pr : ∀ x y : Int, x ∈ xs → y ∈ ys → (x * y).natAbs < 2 ^ (k + k) := fun x y a b => abs_mul_lt (hr x a) (hs y b)
  generalize 2 ^ (k + k) = M at p0 pr
  unfold tms
  rcases three' hx h1 with ⟨a, rfl⟩ | ⟨a, c, rfl⟩ | ⟨a, c, d, rfl⟩
  · match ys, e, pr with
    | [a'], _, pr =>
      have q1 := pr a a' (by simp) (by simp)
      simp only [List.zipWith_cons_cons, List.zipWith_nil_left, List.sum_cons, List.sum_nil]
      omega
  · match ys, e, pr with
    | [a', c'], _, pr =>
      have q1 := pr a a' (by simp) (by simp)
      have q2 := pr c c' (by simp) (by simp)
      simp only [List.zipWith_cons_cons, List.zipWith_nil_left, List.sum_cons, List.sum_nil]
      omega
  · match ys, e, pr with
    | [a', c', d'], _, pr =>
      have q1 := pr a a' (by simp) (by simp)
      have q2 := pr c c' (by simp) (by simp)
      have q3 := pr d d' (by simp) (by simp)
      simp only [List.zipWith_cons_cons, List.zipWith_nil_left, List.sum_cons, List.sum_nil]
      omega
theorem right_ok {k : Nat} {b n0 : Int} {rest : List Int} (h : Ok k b n0 rest) (h0 : 0 < k) (hk : k ≤ 28) : B__law_step_right [stp (fr b n0) (rest.map (fr b)), nl n0 rest, .int b] = .ok (.bl true) [none, none, none] := by
  have up : ∀ {i : Int}, i.natAbs < 2 ^ k → i.natAbs < 2 ^ 60 := fun q => Nat.lt_of_lt_of_le q (Nat.pow_le_pow_right (by omega) (by omega))
  have i0 := is_ok h.pos h.nb h.bb h0 (by omega)
  have tm := times_ok (m0 := n0) h.le h.ge rfl (up h.nb) fun n m => up (h.rb n m)
  have kd := kindI_ok h.le h.ge (up h.nb) fun n m => up (h.rb n m)
  have df := dot_fr (b := b) (c := b) (n0 := n0) (m0 := n0) h.le h.ge (rfl : rest.length = rest.length)
  have bb := pMul_int (mulB_left (j := b) (up h.bb))
  have tb : (tms n0 rest n0 rest).natAbs < 2 ^ 400 := by
    exact Nat.lt_of_lt_of_le (tms_bd h.le h.ge rfl h.nb h.nb h.rb h.rb) (Nat.pow_le_pow_right (by omega) (by omega))
  have i9 := is_ok (a := tms n0 rest n0 rest) (b := b * b) (k := 400) (Int.mul_pos h.pos h.pos) tb (Nat.lt_of_lt_of_le (abs_mul_lt h.bb h.bb) (Nat.pow_le_pow_right (by omega) (by omega))) (by omega) (by omega)
  have ks : knd (fr b n0) (fr (b * b) (tms n0 rest n0 rest)) = kndI n0 (tms n0 rest n0 rest) := kinds h.pos (Int.mul_pos h.pos h.pos)
  have pe := pEq_str (kndI_ok n0 (tms n0 rest n0 rest)) (kndI_ok n0 (tms n0 rest n0 rest))
  have nn := pNe_nil []
  generalize hT : tms n0 rest n0 rest = T at tm kd i9 pe df ks
  rcases three' h.le h.ge with ⟨a, rfl⟩ | ⟨a, c, rfl⟩ | ⟨a, c, d, rfl⟩
  · have i1 := is_ok h.pos (h.rb a (by simp)) h.bb h0 (by omega)
    simp at nn
    simp only [List.map_cons, List.map_nil, fr] at df ks
    simp [B__law_step_right, mkB, b__law_step_right, kO, fr, i0, pLen, itemsOf, pEnu, enuD, big, lcGo, lcOut, wipeE, backE, gTs, i1, nn, df, ks, tm, kd, bb, i9, pe]
  · have i1 := is_ok h.pos (h.rb a (by simp)) h.bb h0 (by omega)
    have i2 := is_ok h.pos (h.rb c (by simp)) h.bb h0 (by omega)
    simp at nn
    simp only [List.map_cons, List.map_nil, fr] at df ks
    simp [B__law_step_right, mkB, b__law_step_right, kO, fr, i0, pLen, itemsOf, pEnu, enuD, big, lcGo, lcOut, wipeE, backE, gTs, i1, i2, nn, df, ks, tm, kd, bb, i9, pe]
  · have i1 := is_ok h.pos (h.rb a (by simp)) h.bb h0 (by omega)
    have i2 := is_ok h.pos (h.rb c (by simp)) h.bb h0 (by omega)
    have i3 := is_ok h.pos (h.rb d (by simp)) h.bb h0 (by omega)
    simp at nn
    simp only [List.map_cons, List.map_nil, fr] at df ks
    simp [B__law_step_right, mkB, b__law_step_right, kO, fr, i0, pLen, itemsOf, pEnu, enuD, big, lcGo, lcOut, wipeE, backE, gTs, i1, i2, i3, nn, df, ks, tm, kd, bb, i9, pe]
end Kw

namespace Kw
open PySem PySem.Spec PyProof.Rows L2 Z
/-- the pen: what it draws from; not yet asked more than n times -/
def Pen (n : Nat) (d : D) : Prop := ∃ (L : List Int) (t r : Int), d = .lst [.lst (L.map .int), .int t, .int r] ∧ 0 ≤ t ∧ t ≤ n
theorem fmod_in {a m : Int} (h : 0 < m) : 0 ≤ a.fmod m ∧ a.fmod m < m := ⟨Int.fmod_nonneg_of_pos a h, Int.fmod_lt_of_pos a h⟩
theorem ix_own0 (x : D) (l : List D) : pIx (.lst (x :: l)) (.int 0) = some x := ix_lst0 x l
@[simp] theorem ix_lst1 (x y : D) (l : List D) : pIx (.lst (x :: y :: l)) (.int 1) = some y := by
  have : (1 : Int) < (l.length : Int) + 1 + 1 := by omega
  simp [pIx, atI, ixN, this]
@[simp] theorem ix_lst2 (x y z : D) (l : List D) : pIx (.lst (x :: y :: z :: l)) (.int 2) = some z := by
  have : (2 : Int) < (l.length : Int) + 1 + 1 + 1 := by omega
  simp [pIx, atI, ixN, this]
@[simp] theorem set_1 (x y z d : D) : ixSet [x, y, z] (.int 1) d = some [x, d, z] := rfl
@[simp] theorem set_2 (x y z d : D) : ixSet [x, y, z] (.int 2) d = some [x, y, d] := rfl
theorem cell_ok (L : List Int) (i : Int) (h : 0 ≤ i) (h1 : i < L.length) : ∃ c, pIx (.lst (L.map D.int)) (.int i) = some (.int c) := by
  have hn : i.toNat < L.length := by omega
  refine ⟨L[i.toNat], ?_⟩
  simp [pIx, atI, ixN, h, h1, hn]
@[simp] theorem len_ints (L : List Int) : pLen [.lst (L.map D.int)] = some (.int (L.length : Nat)) := by
  rw [pLen_lst, List.length_map]
theorem p18 : pPow (.int 10) (.int 18) = some (.int 1000000000000000000) := by
  rw [pPow_int (by decide) (by decide) (by decide)]
  rfl
def mixI (c t : Int) : Int := (((((c.fmod 2147483587 + 62213 * t + 4021) ^ 5).fmod 2147483647 * (2 * t + 2131) + 53197 * t * t + 71993) ^ 3).fmod 2147483629).fdiv 64
theorem take_ok {n : Nat} {d : D} {m : Int} (h : Pen n d) (hn : n ≤ 2 ^ 20) (hm : 0 < m) (hmb : m.natAbs < 2 ^ 60) : ∃ x d', B__law_take [d, .int m] = .ok (.int x) [some d', none] ∧ 0 ≤ x ∧ x < m ∧ Pen (n + 1) d' := by
  obtain ⟨L, t, r, rfl, t0, tn⟩ := h
  have hm0 : m ≠ 0 := by omega
  have hw : wd 8000 m = true := wd_of hmb (by omega) (by omega)
  have dv := fun i : Int => pDiv_int (i := i) hw hm0
  have md := fun i : Int => pMod_int (i := i) hm0
  by_cases hr : 0 < r
  · refine ⟨r.fmod m, .lst [.lst (L.map .int), .int t, .int (r.fdiv m)], ?_, (fmod_in hm).1, (fmod_in hm).2, L, t, _, rfl, t0, by omega⟩
    simp [B__law_take, mkB, b__law_take, hr, dv, md]
  · have tb : t.natAbs < 2 ^ 60 := by omega
    have m1 := pMul_int (mulB_left (i := 53197) (j := t) (by decide))
    have m2 := pMul_int (mulB_left (i := 62213) (j := t) (by decide))
    have m3 := pMul_int (mulB_left (i := 2) (j := t) (by decide))
    have m4 := pMul_int (mulB_right (i := 53197 * t) (j := t) tb)
    have g1 := fun i : Int => pMod_int (i := i) (j := 2147483587) (by decide)
    have g2 := fun i : Int => pMod_int (i := i) (j := 2147483647) (by decide)
    have g3 := fun i : Int => pMod_int (i := i) (j := 2147483629) (by decide)
    have d64 := fun i : Int => pDiv_int (i := i) (j := 64) (wd_of (k := 7) (by decide) (by omega) (by omega)) (by decide)
    have nn := pNe_nil L
    have tt : t * t ≤ 2 ^ 40 ∧ 0 ≤ t * t := by
      have h1 : t ≤ 2 ^ 20 := by omega
      have h2 := Int.mul_le_mul h1 h1 t0 (by decide)
      exact ⟨by omega, Int.mul_nonneg t0 t0⟩
    have w5 : ∀ c : Int, pPow (.int (c.fmod 2147483587 + 62213 * t + 4021)) (.int 5) = some (.int ((c.fmod 2147483587 + 62213 * t + 4021) ^ 5)) := fun c => pPow_int (i := c.fmod 2147483587 + 62213 * t + 4021) (j := 5) (by decide) (by decide) (by have := fmod_in (a := c) (m := 2147483587) (by decide); omega)
    have mm := fun y : Int => pMul_int (mulB_left (i := y.fmod 2147483647) (j := 2 * t + 2131) (by have := fmod_in (a := y) (m := 2147483647) (by decide); omega))
    have w3 : ∀ y : Int, pPow (.int (y.fmod 2147483647 * (2 * t + 2131) + 53197 * t * t + 71993)) (.int 3) = some (.int ((y.fmod 2147483647 * (2 * t + 2131) + 53197 * t * t + 71993) ^ 3)) := fun y => pPow_int (i := y.fmod 2147483647 * (2 * t + 2131) + 53197 * t * t + 71993) (j := 3) (by decide) (by decide) (by
      have h1 := fmod_in (a := y) (m := 2147483647) (by decide)
      have h2 : y.fmod 2147483647 * (2 * t + 2131) ≤ 2147483647 * (2 * t + 2131) := Int.mul_le_mul_of_nonneg_right (by omega) (by omega)
      have h3 : 0 ≤ y.fmod 2147483647 * (2 * t + 2131) := Int.mul_nonneg h1.1 (by omega)
      rw [Int.mul_assoc]
      omega)
    cases hL : L with
    | nil =>
      subst hL
      have lt : ¬ t < 0 := by omega
      simp only [List.map_nil, List.isEmpty_nil, Bool.not_true] at nn
      refine ⟨(mixI (53197 * t + 4021) t).fmod m, .lst [.lst [], .int (t + 1), .int r], ?_, (fmod_in hm).1, (fmod_in hm).2, [], t + 1, r, rfl, by omega, by omega⟩
      simp [B__law_take, mkB, b__law_take, hr, dv, md, nn, m1, m2, m3, m4, g1, g2, g3, d64, w5, mm, w3, pLst_ok, lt, pLen_lst, mixI]
    | cons l0 L' =>
      rw [← hL]
      have hpos : 0 < L.length := by rw [hL]; simp
      have hp : (0 : Int) < (L.length : Nat) := by omega
      have hi := fmod_in (a := t) hp
      obtain ⟨c, hc⟩ := cell_ok L (t.fmod (L.length : Nat)) hi.1 hi.2
      have gl := pMod_int (i := t) (j := (L.length : Nat)) (by omega)
      have ne : L.isEmpty = false := by rw [hL]; rfl
      rw [ne] at nn
      by_cases hb : t < (L.length : Nat) ∧ 1000000000000000000 ≤ (if c < 0 then -c else c)
      · have m5 := pMul_int (mulB_left (i := 2) (j := (if c < 0 then -c else c) - 1000000000000000000) (by decide))
        refine ⟨(2 * ((if c < 0 then -c else c) - 1000000000000000000) + (if c < 0 then 1 else 0)).fmod m, .lst [.lst (L.map .int), .int (t + 1), .int ((2 * ((if c < 0 then -c else c) - 1000000000000000000) + (if c < 0 then 1 else 0)).fdiv m)], ?_, (fmod_in hm).1, (fmod_in hm).2, L, t + 1, _, rfl, by omega, by omega⟩
        simp [B__law_take, mkB, b__law_take, hr, dv, md, nn, m1, pLst_ok, gl, hc, hb.1, hb.2, p18, m5]
      · refine ⟨(mixI c t).fmod m, .lst [.lst (L.map .int), .int (t + 1), .int r], ?_, (fmod_in hm).1, (fmod_in hm).2, L, t + 1, r, rfl, by omega, by omega⟩
        by_cases hb1 : t < (L.length : Nat)
        · have hb2 : ¬ 1000000000000000000 ≤ (if c < 0 then -c else c) := fun z => hb ⟨hb1, z⟩
          simp [B__law_take, mkB, b__law_take, hr, dv, md, nn, m1, m2, m3, m4, g1, g2, g3, d64, w5, mm, w3, pLst_ok, gl, hc, hb1, hb2, p18, mixI]
        · simp [B__law_take, mkB, b__law_take, hr, dv, md, nn, m1, m2, m3, m4, g1, g2, g3, d64, w5, mm, w3, pLst_ok, gl, hc, hb1, mixI]
end Kw

namespace Kw
open PySem PySem.Spec PyProof.Rows L2 Z
theorem Pen.mono {n m : Nat} {d : D} (h : Pen n d) (l : n ≤ m) : Pen m d := by
  obtain ⟨L, t, r, e, a, b⟩ := h
  exact ⟨L, t, r, e, a, by omega⟩
theorem atD_ok {l : List D} {i : Int} (h : 0 ≤ i) (h1 : i < l.length) : ∃ y, pIx (.lst l) (.int i) = some y ∧ y ∈ l := by
  have hn : i.toNat < l.length := by omega
  refine ⟨l[i.toNat], ?_, List.getElem_mem hn⟩
  simp [pIx, atI, ixN, h, h1, hn]
theorem of_ok {n : Nat} {d : D} {l : List D} (h : Pen n d) (hn : n ≤ 2 ^ 20) (h1 : 1 ≤ l.length) (h2 : l.length ≤ 64) : ∃ y d', B__law_of [d, .lst l] = .ok y [some d', none] ∧ y ∈ l ∧ Pen (n + 1) d' := by
  obtain ⟨x, d', e, x0, x1, p⟩ := take_ok (m := (l.length : Nat)) h hn (by omega) (by omega)
  obtain ⟨y, ey, my⟩ := atD_ok (l := l) x0 x1
  refine ⟨y, d', ?_, my, p⟩
  simp [B__law_of, mkB, b__law_of, pLen_lst, e, ey]
theorem plain_ok {n : Nat} {d : D} {a : Int} (h : Pen n d) (hn : n ≤ 2 ^ 19) (ha : a = 1 ∨ a = 2 ∨ a = 3) : ∃ n0 rest b d', B__law_plain [d, .int a] = .ok (.tup [nl n0 rest, .int b]) [some d', none] ∧ (rest.length : Int) = a ∧ Ok 4 b n0 rest ∧ Pen (n + 6) d' := by
  obtain ⟨y, d0, e0, my, p0⟩ := of_ok (l := [.int 1, .int 3, .int 12]) h (by omega) (by decide) (by decide)
  have hs : ∃ s : Int, y = .int s ∧ 1 ≤ s ∧ s ≤ 12 := by
    simp at my
    rcases my with rfl | rfl | rfl
    · exact ⟨1, rfl, by omega, by omega⟩
    · exact ⟨3, rfl, by omega, by omega⟩
    · exact ⟨12, rfl, by omega, by omega⟩
  obtain ⟨s, rfl, s1, s2⟩ := hs
  have m2 := pMul_int (mulB_left (i := 2) (j := s) (by decide))
  obtain ⟨x1, d1, e1, a1, b1, p1⟩ := take_ok (m := 2 * s + 1) p0 (by omega) (by omega) (by omega)
  obtain ⟨x2, d2, e2, a2, b2, p2⟩ := take_ok (m := 2 * s + 1) p1 (by omega) (by omega) (by omega)
  have len3 := pLst_ok (l := [.int 1, .int 3, .int 12]) (by decide)
  rcases ha with rfl | rfl | rfl
  · obtain ⟨x9, d9, e9, a9, b9, p9⟩ := take_ok (m := 6) p2 (by omega) (by omega) (by decide)
    refine ⟨x1 - s, [x2 - s], 1 + x9, d9, ?_, rfl, ⟨by simp, by simp, by omega, by omega, by omega, by simp; omega⟩, p9.mono (by omega)⟩
    have rg : rng 0 2 = [.int 0, .int 1] := rfl
    simp [B__law_plain, mkB, b__law_plain, len3, e0, pRng, rg, big, lcGo, lcOut, wipeE, backE, m2, e1, e2, e9, pTup_ok]
  · obtain ⟨x3, d3, e3, a3, b3, p3⟩ := take_ok (m := 2 * s + 1) p2 (by omega) (by omega) (by omega)
    obtain ⟨x9, d9, e9, a9, b9, p9⟩ := take_ok (m := 6) p3 (by omega) (by omega) (by decide)
    refine ⟨x1 - s, [x2 - s, x3 - s], 1 + x9, d9, ?_, rfl, ⟨by simp, by simp, by omega, by omega, by omega, by simp; omega⟩, p9.mono (by omega)⟩
    have rg : rng 0 3 = [.int 0, .int 1, .int 2] := rfl
    simp [B__law_plain, mkB, b__law_plain, len3, e0, pRng, rg, big, lcGo, lcOut, wipeE, backE, m2, e1, e2, e3, e9, pTup_ok]
  · obtain ⟨x3, d3, e3, a3, b3, p3⟩ := take_ok (m := 2 * s + 1) p2 (by omega) (by omega) (by omega)
    obtain ⟨x4, d4, e4, a4, b4, p4⟩ := take_ok (m := 2 * s + 1) p3 (by omega) (by omega) (by omega)
    obtain ⟨x9, d9, e9, a9, b9, p9⟩ := take_ok (m := 6) p4 (by omega) (by omega) (by decide)
    refine ⟨x1 - s, [x2 - s, x3 - s, x4 - s], 1 + x9, d9, ?_, rfl, ⟨by simp, by simp, by omega, by omega, by omega, by simp; omega⟩, p9.mono (by omega)⟩
    have rg : rng 0 4 = [.int 0, .int 1, .int 2, .int 3] := rfl
    simp [B__law_plain, mkB, b__law_plain, len3, e0, pRng, rg, big, lcGo, lcOut, wipeE, backE, m2, e1, e2, e3, e4, e9, pTup_ok]
/-- numbers of a step that goes forward -/
def Fwd (n0 : Int) (rest : List Int) : Prop := 0 < n0 ∧ 0 ≤ tms n0 rest n0 rest
theorem square_ok {x : Int} (h : x.natAbs < 2 ^ 60) : pMul (.int x) (.int x) = some (.int (x * x)) := pMul_int (mulB_left h)
/-- the least whole number whose square is enough -/
theorem root_ok (far : Int) (hf : far ≤ 783) (env : Int → Ev) (he : ∀ t, (env t)[6]? = some (some (.int t)) ∧ (env t)[5]? = some (some (.int far)) ∧ ∀ u, (env t).set 6 (some (.int u)) = env u) :
    ∀ (m : Nat) (t : Int) (N : Nat), t = 28 - m → 1 ≤ t → m + 1 ≤ N → ∃ u, whGo (tV (eB (oP pLt) (eB (oP pMul) (eV 6) (eV 6)) (eV 5))) (sAs 6 (eB (oP pAdd) (eV 6) (eK (.int 1)))) N (env t) = .ok .nx (env u) ∧ t ≤ u ∧ u ≤ 28 ∧ far ≤ u * u
  | m, t, 0, _, _, h => by omega
  | m, t, N + 1, ht, h1, hN => by
    obtain ⟨a1, a2, a3⟩ := he t
    have sq := square_ok (x := t) (by omega)
    by_cases hlt : t * t < far
    · cases m with
      | zero =>
        have : t = 28 := by omega
        subst this
        omega
      | succ m =>
        obtain ⟨u, e, u1, u2, u3⟩ := root_ok far hf env he m (t + 1) N (by omega) (by omega) (by omega)
        refine ⟨u, ?_, by omega, u2, u3⟩
        rw [whGo]
        simp [a1, a2, sq, hlt, a3, e]
    · refine ⟨t, ?_, by omega, by omega, by omega⟩
      rw [whGo]
      simp [a1, a2, sq, hlt]
end Kw

namespace Kw
open PySem PySem.Spec PyProof.Rows L2 Z
def wloop : M Fl := sWh (tV (eB (oP pLt) (eB (oP pMul) (eV 6) (eV 6)) (eV 5))) (sAs 6 (eB (oP pAdd) (eV 6) (eK (.int 1))))
theorem wloop_ok {d d2 : D} {a far b : Int} {ns : D} (hf : far ≤ 783) : ∃ u : Int, wloop [some d, some (.int a), some d2, some ns, some (.int b), some (.int far), some (.int 1), none] = .ok .nx [some d, some (.int a), some d2, some ns, some (.int b), some (.int far), some (.int u), none] ∧ 1 ≤ u ∧ u ≤ 28 ∧ far ≤ u * u := by
  obtain ⟨u, e, r⟩ := root_ok far hf (fun t => [some d, some (.int a), some d2, some ns, some (.int b), some (.int far), some (.int t), none]) (fun t => ⟨rfl, rfl, fun _ => rfl⟩) 27 1 fuel (by omega) (by omega) (by decide)
  exact ⟨u, e, r⟩
theorem fwd_of {n0 : Int} {rest : List Int} (h : 0 < n0) (h2 : tms n0 rest n0 rest = 0) : Fwd n0 rest := ⟨h, by omega⟩
theorem forward_ok {n : Nat} {d : D} {a : Int} (h : Pen n d) (hn : n ≤ 2 ^ 18) (ha : a = 1 ∨ a = 2 ∨ a = 3) : ∃ n0 rest b d', B__law_forward [d, .int a] = .ok (.tup [nl n0 rest, .int b]) [some d', none] ∧ (rest.length : Int) = a ∧ Ok 5 b n0 rest ∧ Fwd n0 rest ∧ Pen (n + 8) d' := by
  obtain ⟨x, d0, e0, x0, x1, p0⟩ := take_ok (m := 3) h (by omega) (by decide) (by decide)
  by_cases hx : x = 0
  · subst hx
    rcases ha with rfl | rfl | rfl
    · obtain ⟨y, d1, e1, my, p1⟩ := of_ok (l := [.lst [.int 1, .int 1], .lst [.int 2, .int (-2)], .lst [.int 5, .int 5]]) p0 (by omega) (by decide) (by decide)
      obtain ⟨x9, d9, e9, a9, b9, p9⟩ := take_ok (m := 6) p1 (by omega) (by omega) (by decide)
      have run : B__law_forward [d, .int 1] = .ok (.tup [y, .int (1 + x9)]) [some d9, none] := by
        unfold B__law_forward b__law_forward
        simp [mkB, big, e0, e1, e9]
      have ex : ∃ n0 r, y = nl n0 [r] ∧ 0 < n0 ∧ n0 ≤ 31 ∧ r.natAbs ≤ 31 ∧ n0 * n0 - r * r = 0 := by
        simp at my
        rcases my with rfl | rfl | rfl
        · exact ⟨1, 1, rfl, by decide, by decide, by decide, by decide⟩
        · exact ⟨2, -2, rfl, by decide, by decide, by decide, by decide⟩
        · exact ⟨5, 5, rfl, by decide, by decide, by decide, by decide⟩
      obtain ⟨n0, r, rfl, q1, q2, q3, q4⟩ := ex
      exact ⟨n0, [r], 1 + x9, d9, run, rfl, ⟨by simp, by simp, by omega, by omega, by omega, by simp; omega⟩, fwd_of q1 (by simp [tms]; omega), p9.mono (by omega)⟩
    · obtain ⟨y, d1, e1, my, p1⟩ := of_ok (l := [.lst [.int 5, .int 3, .int 4], .lst [.int 13, .int (-5), .int 12], .lst [.int 1, .int 0, .int (-1)]]) p0 (by omega) (by decide) (by decide)
      obtain ⟨x9, d9, e9, a9, b9, p9⟩ := take_ok (m := 6) p1 (by omega) (by omega) (by decide)
      have run : B__law_forward [d, .int 2] = .ok (.tup [y, .int (1 + x9)]) [some d9, none] := by
        unfold B__law_forward b__law_forward
        simp [mkB, big, e0, e1, e9]
      have ex : ∃ n0 r s, y = nl n0 [r, s] ∧ 0 < n0 ∧ n0 ≤ 31 ∧ r.natAbs ≤ 31 ∧ s.natAbs ≤ 31 ∧ n0 * n0 - (r * r + s * s) = 0 := by
        simp at my
        rcases my with rfl | rfl | rfl
        · exact ⟨5, 3, 4, rfl, by decide, by decide, by decide, by decide, by decide⟩
        · exact ⟨13, -5, 12, rfl, by decide, by decide, by decide, by decide, by decide⟩
        · exact ⟨1, 0, -1, rfl, by decide, by decide, by decide, by decide, by decide⟩
      obtain ⟨n0, r, s, rfl, q1, q2, q3, q5, q4⟩ := ex
      exact ⟨n0, [r, s], 1 + x9, d9, run, rfl, ⟨by simp, by simp, by omega, by omega, by omega, by simp; omega⟩, fwd_of q1 (by simp [tms]; omega), p9.mono (by omega)⟩
    · obtain ⟨y, d1, e1, my, p1⟩ := of_ok (l := [.lst [.int 3, .int 1, .int 2, .int (-2)], .lst [.int 7, .int 2, .int 3, .int 6], .lst [.int 9, .int (-4), .int 1, .int 8]]) p0 (by omega) (by decide) (by decide)
      obtain ⟨x9, d9, e9, a9, b9, p9⟩ := take_ok (m := 6) p1 (by omega) (by omega) (by decide)
      have run : B__law_forward [d, .int 3] = .ok (.tup [y, .int (1 + x9)]) [some d9, none] := by
        unfold B__law_forward b__law_forward
        simp [mkB, big, e0, e1, e9]
      have ex : ∃ n0 r s u, y = nl n0 [r, s, u] ∧ 0 < n0 ∧ n0 ≤ 31 ∧ r.natAbs ≤ 31 ∧ s.natAbs ≤ 31 ∧ u.natAbs ≤ 31 ∧ n0 * n0 - (r * r + (s * s + u * u)) = 0 := by
        simp at my
        rcases my with rfl | rfl | rfl
        · exact ⟨3, 1, 2, -2, rfl, by decide, by decide, by decide, by decide, by decide, by decide⟩
        · exact ⟨7, 2, 3, 6, rfl, by decide, by decide, by decide, by decide, by decide, by decide⟩
        · exact ⟨9, -4, 1, 8, rfl, by decide, by decide, by decide, by decide, by decide, by decide⟩
      obtain ⟨n0, r, s, u, rfl, q1, q2, q3, q5, q6, q4⟩ := ex
      exact ⟨n0, [r, s, u], 1 + x9, d9, run, rfl, ⟨by simp, by simp, by omega, by omega, by omega, by simp; omega⟩, fwd_of q1 (by simp [tms]; omega), p9.mono (by omega)⟩
  · obtain ⟨n0, rest, b, d1, e1, hl, ok, p1⟩ := plain_ok p0 (by omega) ha
    have sqs : ∀ r ∈ rest, pMul (.int r) (.int r) = some (.int (r * r)) := fun r hr => square_ok (Nat.lt_of_lt_of_le (ok.rb r hr) (by decide))
    have small : ∀ r ∈ rest, r * r ≤ 255 ∧ 0 ≤ r * r := fun r hr => by
      have q := abs_mul_lt (ok.rb r hr) (ok.rb r hr)
      have z : 0 ≤ r * r := by
        rcases Int.le_total 0 r with w | w
        · exact Int.mul_nonneg w w
        · exact Int.mul_nonneg_of_nonpos_of_nonpos w w
      exact ⟨by omega, z⟩
    have wl : sWh (tV (eB (oP pLt) (eB (oP pMul) (eV 6) (eV 6)) (eV 5))) (sAs 6 (eB (oP pAdd) (eV 6) (eK (.int 1)))) = wloop := rfl
    have bl := ok.bb
    have tsq : ∀ (u x : Int), 1 ≤ u → 0 ≤ x → u * u ≤ (u + x) * (u + x) := fun u x h1 h2 => Int.mul_le_mul (by omega) (by omega) (by omega) (by omega)
    rcases three' ok.le ok.ge with ⟨r, rfl⟩ | ⟨r, s, rfl⟩ | ⟨r, s, q, rfl⟩
    · have s1 := small r (by simp)
      have p1' := sqs r (by simp)
      have rr := ok.rb r (by simp)
      obtain rfl : a = 1 := by simpa using hl.symm
      obtain ⟨u, eu, u1, u2, u3⟩ := wloop_ok (d := d1) (d2 := .lst [.lst [.lst [.int 1, .int 1], .lst [.int 2, .int (-2)], .lst [.int 5, .int 5]], .lst [.lst [.int 5, .int 3, .int 4], .lst [.int 13, .int (-5), .int 12], .lst [.int 1, .int 0, .int (-1)]], .lst [.lst [.int 3, .int 1, .int 2, .int (-2)], .lst [.int 7, .int 2, .int 3, .int 6], .lst [.int 9, .int (-4), .int 1, .int 8]]]) (a := 1) (b := b) (ns := nl n0 [r]) (far := r * r) (by omega)
      obtain ⟨x9, d9, e9, a9, b9, p9⟩ := take_ok (m := 3) p1 (by omega) (by omega) (by decide)
      have t9 := tsq u x9 u1 a9
      refine ⟨u + x9, [r], b, d9, ?_, rfl, ⟨by simp, by simp, ok.pos, by omega, by omega, by simp; omega⟩, ⟨by omega, by simp [tms]; omega⟩, p9.mono (by omega)⟩
      unfold B__law_forward b__law_forward
      rw [wl]
      simp [mkB, big, e0, hx, e1, gTs, itemsOf, lcGo, lcOut, wipeE, backE, p1', pSum, lisOf, toInts, eu, e9, pAdd]
    · have s1 := small r (by simp)
      have p1' := sqs r (by simp)
      have r1 := ok.rb r (by simp)
      have s2 := small s (by simp)
      have p2' := sqs s (by simp)
      have r2 := ok.rb s (by simp)
      obtain rfl : a = 2 := by simpa using hl.symm
      obtain ⟨u, eu, u1, u2, u3⟩ := wloop_ok (d := d1) (d2 := .lst [.lst [.lst [.int 1, .int 1], .lst [.int 2, .int (-2)], .lst [.int 5, .int 5]], .lst [.lst [.int 5, .int 3, .int 4], .lst [.int 13, .int (-5), .int 12], .lst [.int 1, .int 0, .int (-1)]], .lst [.lst [.int 3, .int 1, .int 2, .int (-2)], .lst [.int 7, .int 2, .int 3, .int 6], .lst [.int 9, .int (-4), .int 1, .int 8]]]) (a := 2) (b := b) (ns := nl n0 [r, s]) (far := r * r + s * s) (by omega)
      obtain ⟨x9, d9, e9, a9, b9, p9⟩ := take_ok (m := 3) p1 (by omega) (by omega) (by decide)
      have t9 := tsq u x9 u1 a9
      refine ⟨u + x9, [r, s], b, d9, ?_, rfl, ⟨by simp, by simp, ok.pos, by omega, by omega, by simp; omega⟩, ⟨by omega, by simp [tms]; omega⟩, p9.mono (by omega)⟩
      unfold B__law_forward b__law_forward
      rw [wl]
      simp [mkB, big, e0, hx, e1, gTs, itemsOf, lcGo, lcOut, wipeE, backE, p1', p2', pSum, lisOf, toInts, eu, e9, pAdd]
    · have s1 := small r (by simp)
      have p1' := sqs r (by simp)
      have r1 := ok.rb r (by simp)
      have s2 := small s (by simp)
      have p2' := sqs s (by simp)
      have r2 := ok.rb s (by simp)
      have s3 := small q (by simp)
      have p3' := sqs q (by simp)
      have r3 := ok.rb q (by simp)
      obtain rfl : a = 3 := by simpa using hl.symm
      obtain ⟨u, eu, u1, u2, u3⟩ := wloop_ok (d := d1) (d2 := .lst [.lst [.lst [.int 1, .int 1], .lst [.int 2, .int (-2)], .lst [.int 5, .int 5]], .lst [.lst [.int 5, .int 3, .int 4], .lst [.int 13, .int (-5), .int 12], .lst [.int 1, .int 0, .int (-1)]], .lst [.lst [.int 3, .int 1, .int 2, .int (-2)], .lst [.int 7, .int 2, .int 3, .int 6], .lst [.int 9, .int (-4), .int 1, .int 8]]]) (a := 3) (b := b) (ns := nl n0 [r, s, q]) (far := r * r + (s * s + q * q)) (by omega)
      obtain ⟨x9, d9, e9, a9, b9, p9⟩ := take_ok (m := 3) p1 (by omega) (by omega) (by decide)
      have t9 := tsq u x9 u1 a9
      refine ⟨u + x9, [r, s, q], b, d9, ?_, rfl, ⟨by simp, by simp, ok.pos, by omega, by omega, by simp; omega⟩, ⟨by omega, by simp [tms]; omega⟩, p9.mono (by omega)⟩
      unfold B__law_forward b__law_forward
      rw [wl]
      simp [mkB, big, e0, hx, e1, gTs, itemsOf, lcGo, lcOut, wipeE, backE, p1', p2', p3', pSum, lisOf, toInts, eu, e9, pAdd]
end Kw

namespace Kw
open PySem PySem.Spec PyProof.Rows L2 Z
theorem fr_mix {b c : Int} (hb : 0 < b) (hc : 0 < c) (x y : Int) : fr b x + fr c y = fr (b * c) (x * c + y * b) := by
  rw [← fr_add, fr_up (by omega), Int.mul_comm b c, fr_up (by omega)]
theorem fr_mix' {b c : Int} (hb : 0 < b) (hc : 0 < c) (x y : Int) : fr b x + -fr c y = fr (b * c) (x * c - y * b) := by
  rw [fr_neg, fr_mix hb hc, Int.neg_mul, ← Int.sub_eq_add_neg]
def plusL (b c : Int) (xs ys : List Int) : List Int := List.zipWith (fun x y => x * c + y * b) xs ys
def lessL (b c : Int) (xs ys : List Int) : List Int := List.zipWith (fun x y => x * c - y * b) xs ys
theorem plusL_fr {b c : Int} (hb : 0 < b) (hc : 0 < c) : ∀ xs ys : List Int, List.zipWith (· + ·) (xs.map (fr b)) (ys.map (fr c)) = (plusL b c xs ys).map (fr (b * c))
  | [], _ => by simp [plusL]
  | _ :: _, [] => by simp [plusL]
  | x :: xs, y :: ys => by
    have := plusL_fr hb hc xs ys
    simp only [plusL] at this ⊢
    simp [fr_mix hb hc, this]
theorem lessL_fr {b c : Int} (hb : 0 < b) (hc : 0 < c) : ∀ xs ys : List Int, List.zipWith (· + ·) (xs.map (fr b)) ((ys.map (fr c)).map (- ·)) = (lessL b c xs ys).map (fr (b * c))
  | [], _ => by simp [lessL]
  | _ :: _, [] => by simp [lessL]
  | x :: xs, y :: ys => by
    have := lessL_fr hb hc xs ys
    simp only [lessL] at this ⊢
    simp [fr_mix' hb hc] at this ⊢
    try exact this
theorem plus_comm {b c : Int} (xs ys : List Rat) : List.zipWith (· + ·) xs ys = List.zipWith (· + ·) ys xs := by
  rw [List.zipWith_comm]
  congr 1
  funext x y
  exact Rat.add_comm _ _
theorem mix_bd {b c x y : Int} {k : Nat} (hb : b.natAbs < 2 ^ k) (hc : c.natAbs < 2 ^ k) (hx : x.natAbs < 2 ^ k) (hy : y.natAbs < 2 ^ k) : (x * c + y * b).natAbs < 2 ^ (2 * k + 1) ∧ (x * c - y * b).natAbs < 2 ^ (2 * k + 1) := by
  have h1 := abs_mul_lt hx hc
  have h2 := abs_mul_lt hy hb
  have e : 2 ^ (2 * k + 1) = 2 * 2 ^ (k + k) := by
    rw [show 2 * k + 1 = (k + k) + 1 by omega, Nat.pow_succ]
    omega
  rw [e]
  omega
theorem Ok.plus {k : Nat} {b c n0 m0 : Int} {xs ys : List Int} (h : Ok k b n0 xs) (h' : Ok k c m0 ys) (e : ys.length = xs.length) : Ok (2 * k + 1) (b * c) (n0 * c + m0 * b) (plusL b c xs ys) ∧ Ok (2 * k + 1) (b * c) (n0 * c - m0 * b) (lessL b c xs ys) := by
  have hl := h.le
  have hg := h.ge
  have bc : (b * c).natAbs < 2 ^ (2 * k + 1) := Nat.lt_of_lt_of_le (abs_mul_lt h.bb h'.bb) (Nat.pow_le_pow_right (by omega) (by omega))
  have z := mix_bd h.bb h'.bb h.nb h'.nb
  constructor
  · refine ⟨by simp [plusL]; omega, by simp [plusL]; omega, Int.mul_pos h.pos h'.pos, bc, z.1, fun n hn => ?_⟩
    unfold plusL at hn
    obtain ⟨x, y, hx, hy, rfl⟩ : ∃ x y, x ∈ xs ∧ y ∈ ys ∧ x * c + y * b = n := by
      obtain ⟨i, hi, e⟩ := List.getElem_of_mem hn
      have hi2 := hi
      rw [List.length_zipWith] at hi2
      rw [List.getElem_zipWith] at e
      exact ⟨xs[i]'(by omega), ys[i]'(by omega), List.getElem_mem _, List.getElem_mem _, e⟩
    exact (mix_bd h.bb h'.bb (h.rb x hx) (h'.rb y hy)).1
  · refine ⟨by simp [lessL]; omega, by simp [lessL]; omega, Int.mul_pos h.pos h'.pos, bc, z.2, fun n hn => ?_⟩
    unfold lessL at hn
    obtain ⟨x, y, hx, hy, rfl⟩ : ∃ x y, x ∈ xs ∧ y ∈ ys ∧ x * c - y * b = n := by
      obtain ⟨i, hi, e⟩ := List.getElem_of_mem hn
      have hi2 := hi
      rw [List.length_zipWith] at hi2
      rw [List.getElem_zipWith] at e
      exact ⟨xs[i]'(by omega), ys[i]'(by omega), List.getElem_mem _, List.getElem_mem _, e⟩
    exact (mix_bd h.bb h'.bb (h.rb x hx) (h'.rb y hy)).2
abbrev stI (b n0 : Int) (xs : List Int) : D := stp (fr b n0) (xs.map (fr b))
theorem addI {k : Nat} {b c n0 m0 : Int} {xs ys : List Int} (h : Ok k b n0 xs) (h' : Ok k c m0 ys) (e : ys.length = xs.length) (h0 : 0 < k) (hk : k ≤ 35) : B_Step___add__ [stI b n0 xs, stI c m0 ys] = .ok (stI (b * c) (n0 * c + m0 * b) (plusL b c xs ys)) [none, none] := by
  have z := step_add (t := fr b n0) (u := fr c m0) (xs := xs.map (fr b)) (ys := ys.map (fr c)) (by simpa using h.le) (by simpa using h.ge) (by simpa using e) h.bd h'.bd h.all h'.all h0 hk
  rwa [fr_mix h.pos h'.pos, plusL_fr h.pos h'.pos] at z
theorem subI {k : Nat} {b c n0 m0 : Int} {xs ys : List Int} (h : Ok k b n0 xs) (h' : Ok k c m0 ys) (e : ys.length = xs.length) (h0 : 0 < k) (hk : k ≤ 35) : B_Step___sub__ [stI b n0 xs, stI c m0 ys] = .ok (stI (b * c) (n0 * c - m0 * b) (lessL b c xs ys)) [none, none] := by
  have z := step_sub (t := fr b n0) (u := fr c m0) (xs := xs.map (fr b)) (ys := ys.map (fr c)) (by simpa using h.le) (by simpa using h.ge) (by simpa using e) h.bd h'.bd h.all h'.all h0 hk
  rwa [fr_mix' h.pos h'.pos, lessL_fr h.pos h'.pos] at z
theorem Ok.neg {k : Nat} {b n0 : Int} {xs : List Int} (h : Ok k b n0 xs) : Ok k b (-n0) (xs.map (- ·)) := ⟨by simpa using h.le, by simpa using h.ge, h.pos, h.bb, by rw [Int.natAbs_neg]; exact h.nb, fun n hn => by
  obtain ⟨x, hx, rfl⟩ := List.mem_map.mp hn
  rw [Int.natAbs_neg]
  exact h.rb x hx⟩
theorem negI {k : Nat} {b n0 : Int} {xs : List Int} (h : Ok k b n0 xs) (h0 : 0 < k) (hk : k ≤ 80) : B_Step___neg__ [stI b n0 xs] = .ok (stI b (-n0) (xs.map (- ·))) [none] := by
  have z := step_neg (t := fr b n0) (xs := xs.map (fr b)) (by simpa using h.le) (by simpa using h.ge) h.bd h.all h0 hk
  have e : (xs.map (fr b)).map (- ·) = (xs.map (- ·)).map (fr b) := by
    rw [List.map_map, List.map_map]
    congr 1
    funext x
    exact fr_neg b x
  rwa [fr_neg, e] at z
theorem tms_comm (n0 m0 : Int) (xs ys : List Int) : tms n0 xs m0 ys = tms m0 ys n0 xs := by
  unfold tms
  rw [Int.mul_comm n0 m0, List.zipWith_comm]
  congr 3
  funext x y
  exact Int.mul_comm _ _
theorem prodI {k : Nat} {b c n0 m0 : Int} {xs ys : List Int} (h : Ok k b n0 xs) (h' : Ok k c m0 ys) (e : ys.length = xs.length) (h0 : 0 < k) (hk : k ≤ 80) : B_product_of [stI b n0 xs, stI c m0 ys] = .ok (rt (fr (b * c) (tms n0 xs m0 ys))) [none, none] := by
  have z := product_of_ok (t := fr b n0) (u := fr c m0) (xs := xs.map (fr b)) (ys := ys.map (fr c)) (by simpa using h.le) (by simpa using h.ge) (by simpa using e) h.bd h'.bd h.all h'.all h0 hk
  rwa [dot_fr h.le h.ge e] at z
end Kw

namespace Kw
open PySem PySem.Spec PyProof.Rows L2 Z
theorem plusL_comm (b c : Int) (xs ys : List Int) : plusL c b ys xs = plusL b c xs ys := by
  unfold plusL
  rw [List.zipWith_comm]
  congr 1
  funext x y
  exact Int.add_comm _ _
theorem scale_bd {k : Nat} {b p n0 q : Int} {xs : List Int} (h : Ok k b n0 xs) (hp : 0 < p) (hpk : p.natAbs < 2 ^ k) (hq : q.natAbs < 2 ^ k) : Ok (2 * k) (b * p) (n0 * q) (xs.map (· * q)) := by
  refine ⟨by simpa using h.le, by simpa using h.ge, Int.mul_pos h.pos hp, ?_, ?_, fun n hn => ?_⟩
  · rw [show 2 * k = k + k by omega]; exact abs_mul_lt h.bb hpk
  · rw [show 2 * k = k + k by omega]; exact abs_mul_lt h.nb hq
  · obtain ⟨x, hx, rfl⟩ := List.mem_map.mp hn
    rw [show 2 * k = k + k by omega]; exact abs_mul_lt (h.rb x hx) hq
theorem mulI {k : Nat} {b p n0 q : Int} {xs : List Int} {d : D} (h : Ok k b n0 xs) (hp : 0 < p) (hpk : p.natAbs < 2 ^ k) (hq : q.natAbs < 2 ^ k) (h0 : 0 < k) (hk : k ≤ 35) (hd : rk ["int"] [0, 1] d = true) (hr : B_is_ratio [d] = .ok (.bl true) [none]) (hm : ∀ r, Bd k r → B_Ratio___mul__ [rt r, d] = .ok (rt (r * fr p q)) [none, none]) :
    B_Step___mul__ [stI b n0 xs, d] = .ok (stI (b * p) (n0 * q) (xs.map (· * q))) [none, none] := by
  have z := step_mul (t := fr b n0) (q := fr p q) (xs := xs.map (fr b)) (d := d) (by simpa using h.le) (by simpa using h.ge) h.bd h.all (Bd.of hp hq hpk) h0 hk hd hr hm
  have e : (xs.map (fr b)).map (· * fr p q) = (xs.map (· * q)).map (fr (b * p)) := by
    rw [List.map_map, List.map_map]
    congr 1
    funext x
    exact fr_mul b p x q
  rwa [fr_mul, e] at z
theorem still {k : Nat} {b n0 : Int} {xs : List Int} (h : Ok k b n0 xs) : (sl (fr (b * b) (n0 * b - n0 * b)) ((lessL b b xs xs).map (fr (b * b))))[4]? = some (.str "nothing") := by
  have hb := Int.mul_pos h.pos h.pos
  rw [sl_4, dot_fr (by have := h.le; simp [lessL]; omega) (by have := h.ge; simp [lessL]; omega) rfl, kinds hb (Int.mul_pos hb hb)]
  rcases three' h.le h.ge with ⟨x, rfl⟩ | ⟨x, y, rfl⟩ | ⟨x, y, z, rfl⟩ <;> simp [lessL, tms, kndI]
/-- the many times of a step: a Ratio or an int -/
def Many (p q : Int) (d : D) : Prop := d = rt (fr p q) ∨ (p = 1 ∧ d = .int q)
theorem many_ok {p q : Int} {d : D} (h : Many p q d) (hp : 0 < p) (hpk : p.natAbs < 2 ^ 4) (hq : q.natAbs < 2 ^ 4) : rk ["int"] [0, 1] d = true ∧ B_is_ratio [d] = .ok (.bl true) [none] ∧ ∀ r, Bd 4 r → B_Ratio___mul__ [rt r, d] = .ok (rt (r * fr p q)) [none, none] := by
  rcases h with rfl | ⟨rfl, rfl⟩
  · exact ⟨by simp [rk], is_ratio_rt _, fun r hr => mul_ok hr (Bd.of hp hq hpk) (by omega) (by omega)⟩
  · refine ⟨by simp [rk, tyN], is_ratio_int _, fun r hr => ?_⟩
    have e : fr 1 q = (q : Rat) := Rat.num_divInt_den (q : Rat)
    rw [e]
    exact mul_int_ok hr hq (by omega) (by omega)
theorem sums_ok {n : Nat} {d : D} {b c n0 m0 : Int} {xs ys : List Int} (hp : Pen n d) (hn : n ≤ 2 ^ 18) (h : Ok 4 b n0 xs) (h' : Ok 4 c m0 ys) (e : ys.length = xs.length) :
    ∃ d', B__law_sums_right [d, .tup [nl n0 xs, .int b], .tup [nl m0 ys, .int c]] = .ok (.bl true) [some d', none, none] ∧ Pen (n + 3) d' := by
  have up : ∀ {i : Int}, i.natAbs < 2 ^ 4 → i.natAbs < 2 ^ 60 := fun q => Nat.lt_of_lt_of_le q (by decide)
  have ma := made_ok h (by omega) (by omega)
  have mb := made_ok h' (by omega) (by omega)
  have o1 := right_ok h (by omega) (by omega)
  have op := h.plus h' e
  have A := addI h h' e (by omega) (by omega)
  have rp := right_ok op.1 (by omega) (by omega)
  have Sb := subI h h' e (by omega) (by omega)
  have rm := right_ok op.2 (by omega) (by omega)
  have A2 := addI h' h e.symm (by omega) (by omega)
  rw [Int.mul_comm c b, Int.add_comm (m0 * b), plusL_comm] at A2
  have eqS := step_eq (t := fr (b * c) (n0 * c + m0 * b)) (xs := (plusL b c xs ys).map (fr (b * c))) (by simpa using op.1.le) (by simpa using op.1.ge)
  have N := negI h (by omega) (by omega)
  have rn := right_ok h.neg (by omega) (by omega)
  have S0 := subI h h rfl (by omega) (by omega)
  have k0 := still h
  have P := prodI h h' e (by omega) (by omega)
  have P2 := prodI h' h e.symm (by omega) (by omega)
  rw [Int.mul_comm c b, tms_comm] at P2
  have tm := times_ok (m0 := m0) h.le h.ge e (up h.nb) fun n m => up (h.rb n m)
  have isP : B__law_is [rt (fr (b * c) (tms n0 xs m0 ys)), .int (tms n0 xs m0 ys), .int (b * c)] = .ok (.bl true) [none, none, none] := is_ok (a := tms n0 xs m0 ys) (b := b * c) (k := 20) (Int.mul_pos h.pos h'.pos) (Nat.lt_of_lt_of_le (tms_bd h.le h.ge e h.nb h'.nb h.rb h'.rb) (by decide)) (Nat.lt_of_lt_of_le (abs_mul_lt h.bb h'.bb) (by decide)) (by omega) (by omega)
  have eqR := eq_ok (fr (b * c) (tms n0 xs m0 ys)) (fr (b * c) (tms n0 xs m0 ys))
  have bc := pMul_int (mulB_left (j := c) (up h.bb))
  have strn := pNe_str (a := "nothing") (b := "nothing") (by decide +kernel) (by decide +kernel)
  obtain ⟨t1, d1, e1, a1, b1, p1⟩ := take_ok (m := 25) hp (by omega) (by omega) (by decide)
  obtain ⟨t2, d2, e2, a2, b2, p2⟩ := take_ok (m := 5) p1 (by omega) (by omega) (by decide)
  have mp := pMul_int (mulB_left (j := 1 + t2) (up h.bb))
  -- how many times
  have R : B_Ratio___init__ [.ob 0 [], .int (t1 - 12), .int (1 + t2)] = .ok .non [some (rt (fr (1 + t2) (t1 - 12))), none, none] := B_ratio (n := t1 - 12) (d := 1 + t2) (by omega) (Nat.lt_of_lt_of_le (show (1 + t2).natAbs < 2 ^ 4 by omega) (Nat.pow_le_pow_right (by omega) (by omega)))
  have sc := scale_bd h (p := 1 + t2) (q := t1 - 12) (by omega) (by omega) (by omega)
  have rs := right_ok sc (by omega) (by omega)
  have mI : ∀ dm, Many (1 + t2) (t1 - 12) dm → B_Step___mul__ [stI b n0 xs, dm] = .ok (stI (b * (1 + t2)) (n0 * (t1 - 12)) (xs.map (· * (t1 - 12)))) [none, none] := fun dm hm =>
    have z := many_ok hm (by omega) (by omega) (by omega)
    mulI h (by omega) (by omega) (by omega) (by omega) (by omega) z.1 z.2.1 z.2.2
  rcases three' h.le h.ge with ⟨x1, rfl⟩ | ⟨x1, x2, rfl⟩ | ⟨x1, x2, x3, rfl⟩
  · match ys, e with
    | [y1], _ =>
      have q0 := pMul_int (mulB_left (j := c) (up h.nb))
      have q0b := pMul_int (mulB_left (j := b) (up h'.nb))
      have q0c := pMul_int (mulB_left (j := t1 - 12) (up h.nb))
      have q1a := pMul_int (mulB_left (j := c) (up (h.rb x1 (by simp))))
      have q1b := pMul_int (mulB_left (j := b) (up (h'.rb y1 (by simp))))
      have q1c := pMul_int (mulB_left (j := t1 - 12) (up (h.rb x1 (by simp))))
      simp only [stI, nl, plusL, lessL, List.zipWith_cons_cons, List.zipWith_nil_left, List.map_cons, List.map_nil, Int.sub_self] at *
      by_cases hz : t2 = 0
      · subst hz
        obtain ⟨t3, d3, e3, a3, b3, p3⟩ := take_ok (m := 2) p2 (by omega) (by omega) (by decide)
        by_cases h3 : t3 = 0
        · subst h3
          have mm := mI (rt (fr (1 + 0) (t1 - 12))) (.inl rfl)
          refine ⟨d3, ?_, p3⟩
          simp only [Int.add_zero, Int.mul_one] at mm rs R mp
          simp [B__law_sums_right, mkB, b__law_sums_right, gTs, itemsOf, big, lcGo, lcOut, wipeE, backE, pZip, isTupD, zipD, oW, rk, tyN, oC1, oNW, negO, permL, ma, mb, o1, A, rp, Sb, rm, A2, eqS, N, rn, S0, k0, strn, P, P2, tm, isP, eqR, bc, e1, e2, mp, q0, q0b, q0c, q1a, q1b, q1c, e3, R, mm, rs]
        · have mm := mI (.int (t1 - 12)) (.inr ⟨rfl, rfl⟩)
          refine ⟨d3, ?_, p3⟩
          simp only [Int.add_zero, Int.mul_one] at mm rs R mp
          simp [B__law_sums_right, mkB, b__law_sums_right, gTs, itemsOf, big, lcGo, lcOut, wipeE, backE, pZip, isTupD, zipD, oW, rk, tyN, oC1, oNW, negO, permL, ma, mb, o1, A, rp, Sb, rm, A2, eqS, N, rn, S0, k0, strn, P, P2, tm, isP, eqR, bc, e1, e2, mp, q0, q0b, q0c, q1a, q1b, q1c, e3, h3, mm, rs]
      · have mm := mI (rt (fr (1 + t2) (t1 - 12))) (.inl rfl)
        have big1 : 1 < 1 + t2 := by omega
        refine ⟨d2, ?_, p2.mono (by omega)⟩
        simp [B__law_sums_right, mkB, b__law_sums_right, gTs, itemsOf, big, lcGo, lcOut, wipeE, backE, pZip, isTupD, zipD, oW, rk, tyN, oC1, oNW, negO, permL, ma, mb, o1, A, rp, Sb, rm, A2, eqS, N, rn, S0, k0, strn, P, P2, tm, isP, eqR, bc, e1, e2, mp, q0, q0b, q0c, q1a, q1b, q1c, big1, R, mm, rs]
  · match ys, e with
    | [y1, y2], _ =>
      have q0 := pMul_int (mulB_left (j := c) (up h.nb))
      have q0b := pMul_int (mulB_left (j := b) (up h'.nb))
      have q0c := pMul_int (mulB_left (j := t1 - 12) (up h.nb))
      have q1a := pMul_int (mulB_left (j := c) (up (h.rb x1 (by simp))))
      have q1b := pMul_int (mulB_left (j := b) (up (h'.rb y1 (by simp))))
      have q1c := pMul_int (mulB_left (j := t1 - 12) (up (h.rb x1 (by simp))))
      have q2a := pMul_int (mulB_left (j := c) (up (h.rb x2 (by simp))))
      have q2b := pMul_int (mulB_left (j := b) (up (h'.rb y2 (by simp))))
      have q2c := pMul_int (mulB_left (j := t1 - 12) (up (h.rb x2 (by simp))))
      simp only [stI, nl, plusL, lessL, List.zipWith_cons_cons, List.zipWith_nil_left, List.map_cons, List.map_nil, Int.sub_self] at *
      by_cases hz : t2 = 0
      · subst hz
        obtain ⟨t3, d3, e3, a3, b3, p3⟩ := take_ok (m := 2) p2 (by omega) (by omega) (by decide)
        by_cases h3 : t3 = 0
        · subst h3
          have mm := mI (rt (fr (1 + 0) (t1 - 12))) (.inl rfl)
          refine ⟨d3, ?_, p3⟩
          simp only [Int.add_zero, Int.mul_one] at mm rs R mp
          simp [B__law_sums_right, mkB, b__law_sums_right, gTs, itemsOf, big, lcGo, lcOut, wipeE, backE, pZip, isTupD, zipD, oW, rk, tyN, oC1, oNW, negO, permL, ma, mb, o1, A, rp, Sb, rm, A2, eqS, N, rn, S0, k0, strn, P, P2, tm, isP, eqR, bc, e1, e2, mp, q0, q0b, q0c, q1a, q1b, q1c, q2a, q2b, q2c, e3, R, mm, rs]
        · have mm := mI (.int (t1 - 12)) (.inr ⟨rfl, rfl⟩)
          refine ⟨d3, ?_, p3⟩
          simp only [Int.add_zero, Int.mul_one] at mm rs R mp
          simp [B__law_sums_right, mkB, b__law_sums_right, gTs, itemsOf, big, lcGo, lcOut, wipeE, backE, pZip, isTupD, zipD, oW, rk, tyN, oC1, oNW, negO, permL, ma, mb, o1, A, rp, Sb, rm, A2, eqS, N, rn, S0, k0, strn, P, P2, tm, isP, eqR, bc, e1, e2, mp, q0, q0b, q0c, q1a, q1b, q1c, q2a, q2b, q2c, e3, h3, mm, rs]
      · have mm := mI (rt (fr (1 + t2) (t1 - 12))) (.inl rfl)
        have big1 : 1 < 1 + t2 := by omega
        refine ⟨d2, ?_, p2.mono (by omega)⟩
        simp [B__law_sums_right, mkB, b__law_sums_right, gTs, itemsOf, big, lcGo, lcOut, wipeE, backE, pZip, isTupD, zipD, oW, rk, tyN, oC1, oNW, negO, permL, ma, mb, o1, A, rp, Sb, rm, A2, eqS, N, rn, S0, k0, strn, P, P2, tm, isP, eqR, bc, e1, e2, mp, q0, q0b, q0c, q1a, q1b, q1c, q2a, q2b, q2c, big1, R, mm, rs]
  · match ys, e with
    | [y1, y2, y3], _ =>
      have q0 := pMul_int (mulB_left (j := c) (up h.nb))
      have q0b := pMul_int (mulB_left (j := b) (up h'.nb))
      have q0c := pMul_int (mulB_left (j := t1 - 12) (up h.nb))
      have q1a := pMul_int (mulB_left (j := c) (up (h.rb x1 (by simp))))
      have q1b := pMul_int (mulB_left (j := b) (up (h'.rb y1 (by simp))))
      have q1c := pMul_int (mulB_left (j := t1 - 12) (up (h.rb x1 (by simp))))
      have q2a := pMul_int (mulB_left (j := c) (up (h.rb x2 (by simp))))
      have q2b := pMul_int (mulB_left (j := b) (up (h'.rb y2 (by simp))))
      have q2c := pMul_int (mulB_left (j := t1 - 12) (up (h.rb x2 (by simp))))
      have q3a := pMul_int (mulB_left (j := c) (up (h.rb x3 (by simp))))
      have q3b := pMul_int (mulB_left (j := b) (up (h'.rb y3 (by simp))))
      have q3c := pMul_int (mulB_left (j := t1 - 12) (up (h.rb x3 (by simp))))
      simp only [stI, nl, plusL, lessL, List.zipWith_cons_cons, List.zipWith_nil_left, List.map_cons, List.map_nil, Int.sub_self] at *
      by_cases hz : t2 = 0
      · subst hz
        obtain ⟨t3, d3, e3, a3, b3, p3⟩ := take_ok (m := 2) p2 (by omega) (by omega) (by decide)
        by_cases h3 : t3 = 0
        · subst h3
          have mm := mI (rt (fr (1 + 0) (t1 - 12))) (.inl rfl)
          refine ⟨d3, ?_, p3⟩
          simp only [Int.add_zero, Int.mul_one] at mm rs R mp
          simp [B__law_sums_right, mkB, b__law_sums_right, gTs, itemsOf, big, lcGo, lcOut, wipeE, backE, pZip, isTupD, zipD, oW, rk, tyN, oC1, oNW, negO, permL, ma, mb, o1, A, rp, Sb, rm, A2, eqS, N, rn, S0, k0, strn, P, P2, tm, isP, eqR, bc, e1, e2, mp, q0, q0b, q0c, q1a, q1b, q1c, q2a, q2b, q2c, q3a, q3b, q3c, e3, R, mm, rs]
        · have mm := mI (.int (t1 - 12)) (.inr ⟨rfl, rfl⟩)
          refine ⟨d3, ?_, p3⟩
          simp only [Int.add_zero, Int.mul_one] at mm rs R mp
          simp [B__law_sums_right, mkB, b__law_sums_right, gTs, itemsOf, big, lcGo, lcOut, wipeE, backE, pZip, isTupD, zipD, oW, rk, tyN, oC1, oNW, negO, permL, ma, mb, o1, A, rp, Sb, rm, A2, eqS, N, rn, S0, k0, strn, P, P2, tm, isP, eqR, bc, e1, e2, mp, q0, q0b, q0c, q1a, q1b, q1c, q2a, q2b, q2c, q3a, q3b, q3c, e3, h3, mm, rs]
      · have mm := mI (rt (fr (1 + t2) (t1 - 12))) (.inl rfl)
        have big1 : 1 < 1 + t2 := by omega
        refine ⟨d2, ?_, p2.mono (by omega)⟩
        simp [B__law_sums_right, mkB, b__law_sums_right, gTs, itemsOf, big, lcGo, lcOut, wipeE, backE, pZip, isTupD, zipD, oW, rk, tyN, oC1, oNW, negO, permL, ma, mb, o1, A, rp, Sb, rm, A2, eqS, N, rn, S0, k0, strn, P, P2, tm, isP, eqR, bc, e1, e2, mp, q0, q0b, q0c, q1a, q1b, q1c, q2a, q2b, q2c, q3a, q3b, q3c, big1, R, mm, rs]
end Kw

namespace Kw
open PySem PySem.Spec PyProof.Rows L2 Z
theorem tms_add {n0 m0 l0 b c : Int} {xs ys zs : List Int} (hx : xs.length ≤ 3) (h1 : 1 ≤ xs.length) (e : ys.length = xs.length) (e2 : zs.length = xs.length) : tms (n0 * c + m0 * b) (plusL b c xs ys) l0 zs = tms n0 xs l0 zs * c + tms m0 ys l0 zs * b := by
  rcases three' hx h1 with ⟨a, rfl⟩ | ⟨a, a2, rfl⟩ | ⟨a, a2, a3, rfl⟩
  · match ys, e, zs, e2 with
    | [p], _, [q], _ =>
      simp [tms, plusL]
      grind
  · match ys, e, zs, e2 with
    | [p, p2], _, [q, q2], _ =>
      simp [tms, plusL]
      grind
  · match ys, e, zs, e2 with
    | [p, p2, p3], _, [q, q2, q3], _ =>
      simp [tms, plusL]
      grind
theorem plusL_len {b c : Int} {xs ys : List Int} (e : ys.length = xs.length) : (plusL b c xs ys).length = xs.length := by
  simp [plusL]
  omega
theorem plusL_assoc {b c g : Int} : ∀ {xs ys zs : List Int}, ys.length = xs.length → zs.length = xs.length → plusL (b * c) g (plusL b c xs ys) zs = plusL b (c * g) xs (plusL c g ys zs)
  | [], [], [], _, _ => rfl
  | x :: xs, y :: ys, z :: zs, e, e2 => by
    have t := plusL_assoc (b := b) (c := c) (g := g) (xs := xs) (ys := ys) (zs := zs) (by simpa using e) (by simpa using e2)
    simp only [plusL] at t ⊢
    simp only [List.zipWith_cons_cons, t]
    congr 1
    grind
  | [], _ :: _, _, e, _ => by simp at e
  | [], [], _ :: _, _, e => by simp at e
  | _ :: _, [], _, e, _ => by simp at e
  | _ :: _, _ :: _, [], _, e => by simp at e
theorem shared_ok {b c g n0 m0 l0 : Int} {xs ys zs : List Int} (h : Ok 4 b n0 xs) (h' : Ok 4 c m0 ys) (h'' : Ok 4 g l0 zs) (e : ys.length = xs.length) (e2 : zs.length = xs.length) :
    B__law_shared_right [.tup [nl n0 xs, .int b], .tup [nl m0 ys, .int c], .tup [nl l0 zs, .int g]] = .ok (.bl true) [none, none, none] := by
  have ma := made_ok h (by omega) (by omega)
  have mb := made_ok h' (by omega) (by omega)
  have mc := made_ok h'' (by omega) (by omega)
  have up : ∀ {b n0 : Int} {xs : List Int}, Ok 4 b n0 xs → Ok (2 * 4 + 1) b n0 xs := fun z => ⟨z.le, z.ge, z.pos, Nat.lt_of_lt_of_le z.bb (by decide), Nat.lt_of_lt_of_le z.nb (by decide), fun n hn => Nat.lt_of_lt_of_le (z.rb n hn) (by decide)⟩
  have op := (h.plus h' e).1
  have oq := (h'.plus h'' (by omega)).1
  have A := addI h h' e (by omega) (by omega)
  have A2 := addI h' h'' (by omega) (by omega) (by omega)
  have A3 := addI op (up h'') (by rw [plusL_len e]; omega) (by omega) (by omega)
  have A4 := addI (up h) oq (by rw [plusL_len (by omega)]; omega) (by omega) (by omega)
  have P1 := prodI h h'' e2 (by omega) (by omega)
  have P2 := prodI h' h'' (by omega) (by omega) (by omega)
  have P3 := prodI op (up h'') (by rw [plusL_len e]; omega) (by omega) (by omega)
  have eb : ∀ {b n0 m0 : Int} {g : Int} {xs ys : List Int}, Ok 4 b n0 xs → Ok 4 g m0 ys → ys.length = xs.length → Bd 20 (fr (b * g) (tms n0 xs m0 ys)) := fun z z' e => Bd.of (Int.mul_pos z.pos z'.pos) (Nat.lt_of_lt_of_le (tms_bd z.le z.ge e z.nb z'.nb z.rb z'.rb) (by decide)) (Nat.lt_of_lt_of_le (abs_mul_lt z.bb z'.bb) (by decide))
  have S := add_ok (eb h h'' e2) (eb h' h'' (by omega)) (by omega) (by omega)
  have es : fr (b * g) (tms n0 xs l0 zs) + fr (c * g) (tms m0 ys l0 zs) = fr (b * c * g) (tms (n0 * c + m0 * b) (plusL b c xs ys) l0 zs) := by
    rw [tms_add h.le h.ge e e2, ← fr_add]
    have hc : c ≠ 0 := by have := h'.pos; omega
    have hb : b ≠ 0 := by have := h.pos; omega
    rw [show b * c * g = b * g * c by grind, fr_up hc, show b * g * c = c * g * b by grind, fr_up hb]
  rw [es] at S
  have q1 := eq_ok (fr (b * c * g) (tms (n0 * c + m0 * b) (plusL b c xs ys) l0 zs)) (fr (b * c * g) (tms (n0 * c + m0 * b) (plusL b c xs ys) l0 zs))
  have ea : stI (b * c * g) ((n0 * c + m0 * b) * g + l0 * (b * c)) (plusL (b * c) g (plusL b c xs ys) zs) = stI (b * (c * g)) (n0 * (c * g) + (m0 * g + l0 * c) * b) (plusL b (c * g) xs (plusL c g ys zs)) := by
    rw [plusL_assoc e e2, show b * c * g = b * (c * g) by grind, show (n0 * c + m0 * b) * g + l0 * (b * c) = n0 * (c * g) + (m0 * g + l0 * c) * b by grind]
  rw [ea] at A3
  have q2 := step_eq (t := fr (b * (c * g)) (n0 * (c * g) + (m0 * g + l0 * c) * b)) (xs := (plusL b (c * g) xs (plusL c g ys zs)).map (fr (b * (c * g)))) (by have := h.le; simp [plusL]; omega) (by have := h.ge; simp [plusL]; omega)
  simp only [decide_true] at q1
  generalize fr (b * c * g) (tms (n0 * c + m0 * b) (plusL b c xs ys) l0 zs) = T at S P3 q1
  simp only [stI] at *
  generalize (plusL b (c * g) xs (plusL c g ys zs)).map (fr (b * (c * g))) = ZZ at A3 A4 q2
  generalize xs.map (fr b) = XX at *
  generalize ys.map (fr c) = YY at *
  generalize zs.map (fr g) = WW at *
  generalize (plusL b c xs ys).map (fr (b * c)) = PP at *
  generalize (plusL c g ys zs).map (fr (c * g)) = QQ at *
  simp [B__law_shared_right, mkB, b__law_shared_right, gTs, ma, mb, mc, oW, rk, oET, P1, P2, S, A, P3, q1, A2, A3, A4, q2]
end Kw

namespace Kw
open PySem PySem.Spec PyProof.Rows L2 Z
theorem sq0 (a : Int) : 0 ≤ a * a := by
  rcases Int.le_total 0 a with w | w
  · exact Int.mul_nonneg w w
  · exact Int.mul_nonneg_of_nonpos_of_nonpos w w
theorem cs {n m x1 x2 x3 y1 y2 y3 : Int} (hn : 0 < n) (hm : 0 < m) (h1 : x1 * x1 + x2 * x2 + x3 * x3 ≤ n * n) (h2 : y1 * y1 + y2 * y2 + y3 * y3 ≤ m * m) :
    x1 * y1 + x2 * y2 + x3 * y3 ≤ n * m ∧ (x1 * y1 + x2 * y2 + x3 * y3 = n * m → x1 * x1 + x2 * x2 + x3 * x3 = n * n ∧ x1 * m = y1 * n ∧ x2 * m = y2 * n ∧ x3 * m = y3 * n) := by
  have L : (x1 * x1 + x2 * x2 + x3 * x3) * (y1 * y1 + y2 * y2 + y3 * y3) - (x1 * y1 + x2 * y2 + x3 * y3) * (x1 * y1 + x2 * y2 + x3 * y3) = (x1 * y2 - x2 * y1) * (x1 * y2 - x2 * y1) + (x1 * y3 - x3 * y1) * (x1 * y3 - x3 * y1) + (x2 * y3 - x3 * y2) * (x2 * y3 - x3 * y2) := by grind
  have E : (x1 * m - y1 * n) * (x1 * m - y1 * n) + (x2 * m - y2 * n) * (x2 * m - y2 * n) + (x3 * m - y3 * n) * (x3 * m - y3 * n) = m * m * (x1 * x1 + x2 * x2 + x3 * x3) - 2 * (m * n) * (x1 * y1 + x2 * y2 + x3 * y3) + n * n * (y1 * y1 + y2 * y2 + y3 * y3) := by grind
  have s1 := sq0 (x1 * y2 - x2 * y1)
  have s2 := sq0 (x1 * y3 - x3 * y1)
  have s3 := sq0 (x2 * y3 - x3 * y2)
  have X0 : 0 ≤ x1 * x1 + x2 * x2 + x3 * x3 := by have := sq0 x1; have := sq0 x2; have := sq0 x3; omega
  have Y0 : 0 ≤ y1 * y1 + y2 * y2 + y3 * y3 := by have := sq0 y1; have := sq0 y2; have := sq0 y3; omega
  have e1 := sq0 (x1 * m - y1 * n)
  have e2 := sq0 (x2 * m - y2 * n)
  have e3 := sq0 (x3 * m - y3 * n)
  generalize x1 * x1 + x2 * x2 + x3 * x3 = X at *
  generalize y1 * y1 + y2 * y2 + y3 * y3 = Y at *
  generalize x1 * y1 + x2 * y2 + x3 * y3 = S at *
  have nm : 0 < n * m := Int.mul_pos hn hm
  have nn : 0 < n * n := Int.mul_pos hn hn
  have mm : 0 < m * m := Int.mul_pos hm hm
  have XY : X * Y ≤ (n * n) * (m * m) := Int.mul_le_mul h1 h2 Y0 (by omega)
  have q : (n * n) * (m * m) = (n * m) * (n * m) := by grind
  have SS : S * S ≤ (n * m) * (n * m) := by omega
  constructor
  · exact Int.not_lt.mp fun z => by
      have a1 : n * m * (n * m) < S * (n * m) := Int.mul_lt_mul_of_pos_right z nm
      have a2 : S * (n * m) ≤ S * S := Int.mul_le_mul_of_nonneg_left (by omega) (by omega)
      omega
  · intro z
    subst z
    have XYe : X * Y = (n * n) * (m * m) := by omega
    have hX : X = n * n := by
      rcases Int.lt_or_eq_of_le h1 with w | w
      · have a1 : X * Y ≤ X * (m * m) := Int.mul_le_mul_of_nonneg_left h2 X0
        have a2 : X * (m * m) < (n * n) * (m * m) := Int.mul_lt_mul_of_pos_right w mm
        omega
      · exact w
    have hY : Y = m * m := by
      rcases Int.lt_or_eq_of_le h2 with w | w
      · have a2 : (n * n) * Y < (n * n) * (m * m) := Int.mul_lt_mul_of_pos_left w nn
        rw [hX] at XYe
        omega
      · exact w
    have z : m * m * X - 2 * (m * n) * (n * m) + n * n * Y = 0 := by
      rw [hX, hY]
      grind
    have z1 : (x1 * m - y1 * n) * (x1 * m - y1 * n) = 0 := by omega
    have z2 : (x2 * m - y2 * n) * (x2 * m - y2 * n) = 0 := by omega
    have z3 : (x3 * m - y3 * n) * (x3 * m - y3 * n) = 0 := by omega
    have w1 := (Int.mul_eq_zero.mp z1).elim id id
    have w2 := (Int.mul_eq_zero.mp z2).elim id id
    have w3 := (Int.mul_eq_zero.mp z3).elim id id
    exact ⟨hX, by omega, by omega, by omega⟩
/-- two that go forward -/
theorem meet {n m : Int} {xs ys : List Int} (hx : xs.length ≤ 3) (h1 : 1 ≤ xs.length) (e : ys.length = xs.length) (f : Fwd n xs) (g : Fwd m ys) :
    0 ≤ tms n xs m ys ∧ (tms n xs m ys = 0 → tms n xs n xs = 0 ∧ xs.map (· * m) = ys.map (· * n)) := by
  obtain ⟨f1, f2⟩ := f
  obtain ⟨g1, g2⟩ := g
  rcases three' hx h1 with ⟨a, rfl⟩ | ⟨a, a2, rfl⟩ | ⟨a, a2, a3, rfl⟩
  · match ys, e, g2 with
    | [p], _, g2 =>
      simp [tms] at f2 g2 ⊢
      have z := cs (x1 := a) (x2 := 0) (x3 := 0) (y1 := p) (y2 := 0) (y3 := 0) f1 g1 (by omega) (by omega)
      refine ⟨by omega, fun w => ?_⟩
      have := z.2 (by omega)
      exact ⟨by omega, by omega⟩
  · match ys, e, g2 with
    | [p, p2], _, g2 =>
      simp [tms] at f2 g2 ⊢
      have z := cs (x1 := a) (x2 := a2) (x3 := 0) (y1 := p) (y2 := p2) (y3 := 0) f1 g1 (by omega) (by omega)
      refine ⟨by omega, fun w => ?_⟩
      have := z.2 (by omega)
      exact ⟨by omega, by omega, by omega⟩
  · match ys, e, g2 with
    | [p, p2, p3], _, g2 =>
      simp [tms] at f2 g2 ⊢
      have z := cs (x1 := a) (x2 := a2) (x3 := a3) (y1 := p) (y2 := p2) (y3 := p3) f1 g1 (by omega) (by omega)
      refine ⟨by omega, fun w => ?_⟩
      have := z.2 (by omega)
      exact ⟨by omega, by omega, by omega, by omega⟩
theorem tms_neg (n m : Int) (xs ys : List Int) : tms n xs (-m) (ys.map (- ·)) = -tms n xs m ys := by
  have : ∀ xs ys : List Int, (List.zipWith (· * ·) xs (ys.map (- ·))).sum = -(List.zipWith (· * ·) xs ys).sum := by
    intro xs
    induction xs with
    | nil => intro ys; simp
    | cons x xs ih =>
      intro ys
      cases ys with
      | nil => simp
      | cons y ys =>
        simp only [List.map_cons, List.zipWith_cons_cons, List.sum_cons, ih]
        grind
  unfold tms
  rw [this]
  grind
theorem tms_plus {n0 m0 b c : Int} {xs ys : List Int} (hx : xs.length ≤ 3) (h1 : 1 ≤ xs.length) (e : ys.length = xs.length) : tms (n0 * c + m0 * b) (plusL b c xs ys) (n0 * c + m0 * b) (plusL b c xs ys) = tms n0 xs n0 xs * (c * c) + tms m0 ys m0 ys * (b * b) + 2 * (b * c) * tms n0 xs m0 ys := by
  have e1 := tms_add (n0 := n0) (m0 := m0) (l0 := n0 * c + m0 * b) (b := b) (c := c) hx h1 e (zs := plusL b c xs ys) (plusL_len e)
  have e2 := tms_add (n0 := n0) (m0 := m0) (l0 := n0) (b := b) (c := c) hx h1 e (zs := xs) rfl
  have e3 := tms_add (n0 := n0) (m0 := m0) (l0 := m0) (b := b) (c := c) hx h1 e (zs := ys) e
  rw [e1, tms_comm n0, tms_comm m0, e2, e3, tms_comm m0 n0]
  grind
end Kw

namespace Kw
open PySem PySem.Spec PyProof.Rows L2 Z
theorem kd_at {k : Nat} {b n0 : Int} {xs : List Int} (h : Ok k b n0 xs) : knd (fr b n0) (dot (fr b n0) (xs.map (fr b)) (fr b n0) (xs.map (fr b))) = kndI n0 (tms n0 xs n0 xs) := by
  rw [dot_fr h.le h.ge rfl, kinds h.pos (Int.mul_pos h.pos h.pos)]
theorem kd_f {n s : Int} (h : 0 < n) (hs : 0 ≤ s) : kndI n s = "forward" := by
  unfold kndI
  rw [if_neg (by omega), if_neg (by omega), if_pos h]
theorem kd_b {n s : Int} (h : n < 0) (hs : 0 ≤ s) : kndI n s = "backward" := by
  unfold kndI
  rw [if_neg (by omega), if_neg (by omega), if_neg (by omega)]
theorem tms_negs (n : Int) (xs : List Int) : tms (-n) (xs.map (- ·)) (-n) (xs.map (- ·)) = tms n xs n xs := by
  rw [tms_neg, tms_comm, tms_neg]
  omega
theorem less_neg (b c : Int) : ∀ xs ys : List Int, lessL b c (xs.map (- ·)) ys = (plusL b c xs ys).map (- ·)
  | [], _ => by simp [lessL, plusL]
  | _ :: _, [] => by simp [lessL, plusL]
  | x :: xs, y :: ys => by
    have := less_neg b c xs ys
    simp only [lessL, plusL] at this ⊢
    simp only [List.map_cons, List.zipWith_cons_cons, this]
    congr 1
    grind
theorem fr_nonneg {d x : Int} (hd : 0 < d) (hx : 0 ≤ x) : 0 ≤ fr d x := by
  have := fr_neg_iff (x := x) hd
  exact Rat.not_lt.mp fun z => by have := this.mp z; omega
theorem fright_core {d d1 d2 v1 v2 : D} {a su sv : Int} {t u w t' u' w' : Rat} {xs ys zs xs' ys' zs' : List Rat} {p q r s sm : Rat}
    (F1 : B__law_forward [d, .int a] = .ok v1 [some d1, none]) (F2 : B__law_forward [d1, .int a] = .ok v2 [some d2, none])
    (ma : B__law_made [v1] = .ok (stp t xs) [none]) (mb : B__law_made [v2] = .ok (stp u ys) [none])
    (A : B_Step___add__ [stp t xs, stp u ys] = .ok (stp w zs) [none, none])
    (N1 : B_Step___neg__ [stp t xs] = .ok (stp t' xs') [none]) (N2 : B_Step___neg__ [stp u ys] = .ok (stp u' ys') [none])
    (S1 : B_Step___sub__ [stp t' xs', stp u ys] = .ok (stp w' zs') [none, none])
    (P : B_product_of [stp t xs, stp u ys] = .ok (rt r) [none, none]) (PN : B_product_of [stp t xs, stp u' ys'] = .ok (rt s) [none, none])
    (K1 : knd t (dot t xs t xs) = "forward") (K2 : knd t' (dot t' xs' t' xs') = "backward") (K3 : knd w (dot w zs w zs) = "forward") (K4 : knd w' (dot w' zs' w' zs') = "backward")
    (D1 : dot t xs t xs = p) (D2 : dot u ys u ys = q)
    (AD : B_Ratio___add__ [rt p, rt q] = .ok (rt sm) [none, none]) (BL : B_Ratio_is_below [rt (dot w zs w zs), rt sm] = .ok (.bl false) [none, none])
    (SU : B_Ratio_sign [rt r] = .ok (.int su) [none]) (SV : B_Ratio_sign [rt s] = .ok (.int sv) [none]) (hu : 0 ≤ su) (hv : sv ≤ 0)
    (L : su = 1 ∨ (su ≠ 1 ∧ ∃ c c2, B_Step___mul__ [stp t xs, rt u] = .ok (stp c c2) [none, none] ∧ B_Step___mul__ [stp u ys, rt t] = .ok (stp c c2) [none, none] ∧ B_Step___eq__ [stp c c2, stp c c2] = .ok (.bl true) [none, none] ∧ B_Ratio___eq__ [rt p, .int 0] = .ok (.bl true) [none, none])) :
    B__law_forward_right [d, .int a] = .ok (.bl true) [some d2, none] := by
  have sf := pNe_str (a := "forward") (b := "forward") (by decide +kernel) (by decide +kernel)
  have sb := pNe_str (a := "backward") (b := "backward") (by decide +kernel) (by decide +kernel)
  simp only [decide_true, Bool.not_true] at sf sb
  have K1' := K1
  rw [D1] at K1'
  have h1 : ¬ su < 0 := by omega
  have h2 : ¬ 0 < sv := by omega
  rcases L with rfl | ⟨n, c, c2, m1, m2, e1, e2⟩
  · simp [B__law_forward_right, mkB, b__law_forward_right, gTs, F1, F2, ma, mb, oW, rk, oC1, oET, A, N1, N2, S1, P, PN, K1', K2, K3, K4, sf, sb, D1, D2, AD, BL, SU, SV, h1, h2]
  · simp [B__law_forward_right, mkB, b__law_forward_right, gTs, F1, F2, ma, mb, oW, rk, oC1, oET, A, N1, N2, S1, P, PN, K1', K2, K3, K4, sf, sb, D1, D2, AD, BL, SU, SV, h1, h2, n, m1, m2, e1, e2, tyN]
end Kw

namespace Kw
open PySem PySem.Spec PyProof.Rows L2 Z
theorem sgn_ge {i : Int} (h : ¬ i < 0) : 0 ≤ i.sign := by
  rcases Int.lt_or_eq_of_le (Int.not_lt.mp h) with w | w
  · rw [Int.sign_eq_one_of_pos w]; decide
  · rw [← w]; decide
theorem sgn_le {i : Int} (h : ¬ 0 < i) : i.sign ≤ 0 := by
  rcases Int.lt_or_eq_of_le (Int.not_lt.mp h) with w | w
  · rw [Int.sign_eq_neg_one_of_neg w]; decide
  · rw [w]; decide
theorem fright_ok {n : Nat} {d : D} {a : Int} (hp : Pen n d) (hn : n ≤ 2 ^ 17) (ha : a = 1 ∨ a = 2 ∨ a = 3) : ∃ d', B__law_forward_right [d, .int a] = .ok (.bl true) [some d', none] ∧ Pen (n + 16) d' := by
  obtain ⟨n0, xs, b, d1, e1, l1, h, f, p1⟩ := forward_ok hp (by omega) ha
  obtain ⟨m0, ys, c, d2, e2, l2, h', g, p2⟩ := forward_ok p1 (by omega) ha
  have e : ys.length = xs.length := by omega
  refine ⟨d2, ?_, p2⟩
  obtain ⟨me, me0⟩ := meet h.le h.ge e f g
  have ma := made_ok h (by omega) (by omega)
  have mb := made_ok h' (by omega) (by omega)
  have op := h.plus h' e
  have A := addI h h' e (by omega) (by omega)
  have N1 := negI h (by omega) (by omega)
  have N2 := negI h' (by omega) (by omega)
  have on := h.neg.plus h' (by simpa using e)
  have S1 := subI h.neg h' (by simpa using e) (by omega) (by omega)
  have P := prodI h h' e (by omega) (by omega)
  have PN := prodI h h'.neg (by simpa using e) (by omega) (by omega)
  rw [tms_neg] at PN
  have bp := h.pos
  have cp := h'.pos
  have bcp := Int.mul_pos bp cp
  have T3 := tms_plus (b := b) (c := c) (n0 := n0) (m0 := m0) h.le h.ge e
  have f1 := Int.mul_nonneg f.2 (sq0 c)
  have f2 := Int.mul_nonneg g.2 (sq0 b)
  have f3 : 0 ≤ 2 * (b * c) * tms n0 xs m0 ys := Int.mul_nonneg (by omega) me
  have pos3 : 0 < n0 * c + m0 * b := by have := Int.mul_pos f.1 cp; have := Int.mul_pos g.1 bp; omega
  have K1 := (kd_at h).trans (kd_f f.1 f.2)
  have K2 := (kd_at h.neg).trans (kd_b (by have := f.1; omega) (by rw [tms_negs]; exact f.2))
  have K3 := (kd_at op.1).trans (kd_f pos3 (by omega))
  have en : -n0 * c - m0 * b = -(n0 * c + m0 * b) := by grind
  have K4 := (kd_at on.2).trans (kd_b (by omega) (by rw [en, less_neg, tms_negs]; omega))
  have D1 := dot_fr (b := b) (c := b) (n0 := n0) (m0 := n0) h.le h.ge (rfl : xs.length = xs.length)
  have D2 := dot_fr (b := c) (c := c) (n0 := m0) (m0 := m0) h'.le h'.ge (rfl : ys.length = ys.length)
  have D3 := dot_fr (b := b * c) (c := b * c) (n0 := n0 * c + m0 * b) (m0 := n0 * c + m0 * b) op.1.le op.1.ge (rfl : (plusL b c xs ys).length = _)
  have eb : ∀ {k : Nat} {b n0 : Int} {xs : List Int}, Ok k b n0 xs → Bd (2 * k + 2) (fr (b * b) (tms n0 xs n0 xs)) := fun z => Bd.of (Int.mul_pos z.pos z.pos) (tms_bd z.le z.ge rfl z.nb z.nb z.rb z.rb) (Nat.lt_of_lt_of_le (abs_mul_lt z.bb z.bb) (Nat.pow_le_pow_right (by omega) (by omega)))
  have AD := add_ok (eb h) (eb h') (by omega) (by omega)
  have BL := below_ok ((eb op.1).mono (by omega : 2 * (2 * 5 + 1) + 2 ≤ 60)) (((eb h).add (eb h')).mono (by omega : 2 * (2 * 5 + 2) + 1 ≤ 60)) (by omega) (by omega)
  have le : ¬ fr (b * c * (b * c)) (tms (n0 * c + m0 * b) (plusL b c xs ys) (n0 * c + m0 * b) (plusL b c xs ys)) < fr (b * b) (tms n0 xs n0 xs) + fr (c * c) (tms m0 ys m0 ys) := by
    have cc : c * c ≠ 0 := by have := Int.mul_pos cp cp; omega
    have bb : b * b ≠ 0 := by have := Int.mul_pos bp bp; omega
    rw [T3, ← fr_add, ← fr_add, show b * c * (b * c) = b * b * (c * c) by grind, fr_up cc, show b * b * (c * c) = c * c * (b * b) by grind, fr_up bb]
    have z := fr_nonneg (d := c * c * (b * b)) (Int.mul_pos (Int.mul_pos cp cp) (Int.mul_pos bp bp)) f3
    grind
  have su : ¬ (fr (b * c) (tms n0 xs m0 ys)).num < 0 := by rw [nm_neg, fr_neg_iff bcp]; omega
  have sv : ¬ 0 < (fr (b * c) (-tms n0 xs m0 ys)).num := by
    rw [nm_pos]
    have z := fr_nonneg bcp me
    rw [← fr_neg]
    grind
  have sgu := sign_ok (fr (b * c) (tms n0 xs m0 ys))
  have sgv := sign_ok (fr (b * c) (-tms n0 xs m0 ys))
  have sg1 : 0 ≤ (fr (b * c) (tms n0 xs m0 ys)).num.sign := by
    have := Int.not_lt.mp su
    exact sgn_ge su
  have sg2 : (fr (b * c) (-tms n0 xs m0 ys)).num.sign ≤ 0 := by
    exact sgn_le sv
  simp only [stI] at *
  rw [decide_eq_false le] at BL
  rw [← D3] at BL
  refine fright_core e1 e2 ma mb A N1 N2 S1 P PN K1 K2 K3 K4 D1 D2 AD BL sgu sgv sg1 sg2 ?_
  by_cases hz : tms n0 xs m0 ys = 0
  · right
    obtain ⟨z1, z2⟩ := me0 hz
    have M1 := mulI (d := rt (fr c m0)) h cp h'.bb h'.nb (by omega) (by omega) (by simp [rk]) (is_ratio_rt _) (fun r hr => mul_ok hr h'.bd (by omega) (by omega))
    have M2 := mulI (d := rt (fr b n0)) h' bp h.bb h.nb (by omega) (by omega) (by simp [rk]) (is_ratio_rt _) (fun r hr => mul_ok hr h.bd (by omega) (by omega))
    rw [Int.mul_comm c b, Int.mul_comm m0 n0, ← z2] at M2
    have q := step_eq (t := fr (b * c) (n0 * m0)) (xs := (xs.map (· * m0)).map (fr (b * c))) (by simpa using h.le) (by simpa using h.ge)
    have w := eq_int (fr (b * b) (tms n0 xs n0 xs)) 0
    have w0 : fr (b * b) (tms n0 xs n0 xs) = ((0 : Int) : Rat) := by rw [z1, fr_zero]; rfl
    simp only [w0, decide_true] at w
    have un : (fr (b * c) (tms n0 xs m0 ys)).num = 0 := by rw [hz, fr_zero]; rfl
    have w2 : B_Ratio___eq__ [rt (fr (b * b) (tms n0 xs n0 xs)), .int 0] = .ok (.bl true) [none, none] := by rw [w0]; exact w
    refine ⟨by rw [un]; decide, _, _, M1, M2, q, w2⟩
  · left
    have hp : 0 < (fr (b * c) (tms n0 xs m0 ys)).num := by
      have h1 : ¬ fr (b * c) (tms n0 xs m0 ys) < 0 := by rw [fr_neg_iff bcp]; omega
      have h2 : (fr (b * c) (tms n0 xs m0 ys)).num ≠ 0 := fun z => by
        have z2 : ¬ fr (b * c) (-tms n0 xs m0 ys) < 0 := by
          rw [← fr_neg, Rat.num_eq_zero.mp z]
          decide
        rw [fr_neg_iff bcp] at z2
        omega
      rw [← nm_neg] at h1
      omega
    exact Int.sign_eq_one_of_pos hp
end Kw

namespace Kw
open PySem PySem.Spec PyProof.Rows L2 Z
theorem sack_go (x : Option D) : ∀ (ns : List Int) (y : Option D), ∃ y', lcGo [1] (gN 1) tY (eN pInt (aCons (eV 1) aNil)) (ns.map .int) [x, y] = some (ns.map .int, [x, y'])
  | [], y => ⟨y, rfl⟩
  | i :: ns, y => by
    obtain ⟨y', e⟩ := sack_go x ns (some (.int i))
    refine ⟨y', ?_⟩
    simp [lcGo, wipeE, pInt, e]
theorem sack_ok (ns : List Int) (hl : ns.length ≤ 63) : ∃ d, B__law_sack [.kl (ns.map .int)] = .ok d [none] ∧ Pen 0 d := by
  obtain ⟨L, eL, lL⟩ : ∃ L : List Int, Z.cutD (ns.map .int) none (some 61) = L.map .int ∧ L.length ≤ 63 := by
    refine ⟨_, by rw [Z.cutD, ← List.map_drop, ← List.map_take], ?_⟩
    simp
    omega
  obtain ⟨y', e⟩ := sack_go (some (.kl (ns.map .int))) L none
  refine ⟨.lst [.lst (L.map .int), .int 0, .int 0], ?_, L, 0, 0, rfl, by omega, by omega⟩
  have hb : L.length ≤ big := by unfold big; omega
  simp [B__law_sack, mkF, b__law_sack, pSl, eL, itemsOf, hb, e, lcOut, backE, show 3 ≤ big from by unfold big; omega]
def lapB : M Fl := (sSeq (sAs 3 (eB (oP pAdd) (eK (.int 1)) (eCo B__law_take 1 (aCons (eK (.int 3)) aNil)))) (sSeq (sPar [gN 4, gN 5, gN 6] (aCons (eCo B__law_plain 1 (aCons (eV 3) aNil)) (aCons (eCo B__law_plain 1 (aCons (eV 3) aNil)) (aCons (eCo B__law_plain 1 (aCons (eV 3) aNil)) aNil)))) (sSeq (sIf (tV (eB (oP pEq) (eCo B__law_take 1 (aCons (eK (.int 5)) aNil)) (eK (.int 0)))) (sAs 5 (eV 4)) sNil) (sIf (tOn (tNo (tV (eCo B__law_sums_right 1 (aCons (eV 4) (aCons (eV 5) aNil))))) (tOn (tNo (tV (eCd B__law_shared_right [] (aCons (eV 4) (aCons (eV 5) (aCons (eV 6) aNil)))))) (tNo (tV (eCo B__law_forward_right 1 (aCons (eV 3) aNil)))))) (sRet (eK (.bl false))) sNil))))
theorem lap_ok {n : Nat} {d : D} (hp : Pen n d) (hn : n ≤ 2 ^ 16) (x0 y2 y3 y4 y5 y6 : Option D) : ∃ d' z3 z4 z5 z6, lapB [x0, some d, y2, y3, y4, y5, y6] = .ok .nx [x0, some d', y2, z3, z4, z5, z6] ∧ Pen (n + 39) d' := by
  obtain ⟨k, d1, e1, k0, k1, p1⟩ := take_ok (m := 3) hp (by omega) (by omega) (by decide)
  have ha : 1 + k = 1 ∨ 1 + k = 2 ∨ 1 + k = 3 := by omega
  obtain ⟨n0, xs, b, d2, e2, l2, h2, p2⟩ := plain_ok p1 (by omega) ha
  obtain ⟨m0, ys, c, d3, e3, l3, h3, p3⟩ := plain_ok p2 (by omega) ha
  obtain ⟨q0, zs, g, d4, e4, l4, h4, p4⟩ := plain_ok p3 (by omega) ha
  obtain ⟨j, d5, e5, j0, j1, p5⟩ := take_ok (m := 5) p4 (by omega) (by omega) (by decide)
  by_cases hj : j = 0
  · obtain ⟨d6, e6, p6⟩ := sums_ok p5 (by omega) h2 h2 rfl
    have e7 := shared_ok h2 h2 h4 rfl (by omega)
    obtain ⟨d8, e8, p8⟩ := fright_ok p6 (by omega) ha
    refine ⟨d8, some (.int (1 + k)), some (.tup [nl n0 xs, .int b]), some (.tup [nl n0 xs, .int b]), some (.tup [nl q0 zs, .int g]), ?_, by simpa [Nat.add_assoc] using p8⟩
    generalize nl n0 xs = N1 at *
    generalize nl m0 ys = N2 at *
    generalize nl q0 zs = N3 at *
    subst hj
    simp [lapB, gTs, e1, e2, e3, e4, e5, pEq_int, e6, e7, e8]
  · obtain ⟨d6, e6, p6⟩ := sums_ok p5 (by omega) h2 h3 (by omega)
    have e7 := shared_ok h2 h3 h4 (by omega) (by omega)
    obtain ⟨d8, e8, p8⟩ := fright_ok p6 (by omega) ha
    refine ⟨d8, some (.int (1 + k)), some (.tup [nl n0 xs, .int b]), some (.tup [nl m0 ys, .int c]), some (.tup [nl q0 zs, .int g]), ?_, by simpa [Nat.add_assoc] using p8⟩
    generalize nl n0 xs = N1 at *
    generalize nl m0 ys = N2 at *
    generalize nl q0 zs = N3 at *
    simp [lapB, gTs, e1, e2, e3, e4, e5, pEq_int, hj, e6, e7, e8]
theorem law_true (ns : List Int) (hl : ns.length ≤ 63) : B_law [.kl (ns.map .int)] = .ok (.bl true) [none] := by
  obtain ⟨d, e, p⟩ := sack_ok ns hl
  obtain ⟨d1, a3, a4, a5, a6, e1, p1⟩ := lap_ok p (by omega) (some (.kl (ns.map .int))) (some (.int 0)) none none none none
  obtain ⟨d2, b3, b4, b5, b6, e2, p2⟩ := lap_ok p1 (by omega) (some (.kl (ns.map .int))) (some (.int 1)) a3 a4 a5 a6
  obtain ⟨d3, c3, c4, c5, c6, e3, p3⟩ := lap_ok p2 (by omega) (some (.kl (ns.map .int))) (some (.int 2)) b3 b4 b5 b6
  obtain ⟨d4, f3, f4, f5, f6, e4, p4⟩ := lap_ok p3 (by omega) (some (.kl (ns.map .int))) (some (.int 3)) c3 c4 c5 c6
  have eb : b_law = (sSeq (sAsF 1 (eCd B__law_sack [] (aCons (eV 0) aNil))) (sSeq (sFor (itN pRng (aCons (eK (.int 4)) aNil)) (gN 2) lapB) (sRet (eK (.bl true))))) := rfl
  have er : rng 0 4 = [.int 0, .int 1, .int 2, .int 3] := by simp [rng, List.range_succ]
  rw [B_law, eb]
  simp [mkB, e, pRng, er, forGo, e1, e2, e3, e4]
end Kw

open PySem PySem.W PySem.Calls PyProof.Rows
theorem PySem.Challenge.cw_whosefirst_k05_steps_add_up_holds : PySem.Challenge.rw_whosefirst_k05_steps_add_up.Holds := by
  w_on; o_law
  refine HandSHeadRun.head_imp (r := OpenLaw.row PySem.Challenge.rw_whosefirst_k05_steps_add_up) (q := view (OpenLaw.row PySem.Challenge.rw_whosefirst_k05_steps_add_up).prog [0, 50]) (H := Kw.hk) (ob := Kw.ob) (M := 16000) (loose := Kw.loose) (d := HandSHeadRun.topDef (OpenLaw.row PySem.Challenge.rw_whosefirst_k05_steps_add_up).prog 50) (kwd := []) Kw.ob_eq
    Kw.run (by kernel_rfl) (by kernel_rfl) (by kernel_rfl) (by rfl) (by first | assumption | decide +kernel) (by decide +kernel) ⟨rfl, rfl, rfl, rfl, rfl, by decide +kernel⟩ ?hw ?hc
  case hw => w_witness2
  case hc =>
    refine Z.walk_ofZ (l := PySem.Challenge.rw_whosefirst_k05_steps_add_up) (n := 63) (k := 14) (x := ("_law_script" : PySem.Str)) rfl (by decide) (by kernel_rfl) ⟨rfl, by decide, by decide⟩ ?F
    intro w mg fa h Y G hmg0
    obtain ⟨K, KX, c⟩ := Y
    have hmg : mg ("law" : PySem.Str) = some (.ref fa) := by
      have e : (HandSHeadRun.topDef (OpenLaw.row PySem.Challenge.rw_whosefirst_k05_steps_add_up).prog 50).name = ("law" : PySem.Str) := by kernel_rfl
      rw [← e]
      exact hmg0
    obtain ⟨fd, hb, hF⟩ := Kw.facts (P := (PySem.Challenge.rw_whosefirst_k05_steps_add_up).prog) (w := w) KX G hmg c
    refine ⟨K, fd, Z.spB (Kw.gm K) 1 [] Kw.B_law, KX, hb, fun H a ns hl hO hS => ?_, hF⟩
    exact Z.end_of hO hS (Kw.law_true ns hl)
