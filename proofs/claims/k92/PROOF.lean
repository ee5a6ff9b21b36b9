import PyProof.Rows.All
import Wide.All
import OpenK.AllK
import Wide.FinOn
import HandS.ForMost
import HandS.Exc
import HandS.ExcInit
import HandS.CallSlots
import HandS.Defaults
import HandS.IsInst
import HandS.Property
import HandS.Gcd
import HandS.Wide
import HandS.Flow
import HandS.Style
import HandS.ExcOwn
import HandS.ClsMeth
import HandS.Iter
import HandS.Conv
import HandS.Walk
import HandS.Zip
import HandS.TryOnly
import HandS.OwnEq
import HandS.SlotsOwn
import HandS.Head0
import HandS.Head1
import HandS.Head2
import HandS.HeadEnd
import HandS.HeadHook1
import HandS.HeadHook2
import KE.GoesMore
import HandS.Codes
import HandS.Head3
import KE.KOpsOwn
import PySem.Challenge.RW_whosefirst_k92_ages_of_tours
set_option Elab.async false
set_option linter.all false
set_option maxRecDepth 100000
set_option maxHeartbeats 0
/-! Trees of values, what stands for them in the abstract heap, and behaviours: total functions that say what a piece of Python does to an environment of trees. -/
namespace Z
open PySem PySem.Spec PyProof.Rows L2

/-- a value as a tree: kl is a list that is not to be changed (the script's, a written one); ob an instance (class number, fields in the order of its layout) -/
inductive D where
  | non | bl (b : Bool) | int (i : Int) | str (x : Str)
  | tup (l : List D) | lst (l : List D) | kl (l : List D) | dic (ks : List Key) (l : List D)
  | ob (c : Nat) (l : List D) | xo (c : Nat) (l : List D)

abbrev Ev := List (Option D)
inductive Out (α : Type) where
  | ok (a : α) (r : Ev) | ex (e : D) (r : Ev) | no
abbrev M (α : Type) := Ev → Out α
@[simp] def Out.bind {α β : Type} (o : Out α) (k : α → Ev → Out β) : Out β := match o with
  | .ok a r => k a r
  | .ex e r => .ex e r
  | .no => .no

/-- the law's text: its written part, classes' addresses, fields, names; whether an instance never changes behind its __init__ -/
structure Gm where
  K : PySem.W.Frag
  cA : Nat → Addr
  lay : Nat → List Str
  imm : Nat → Bool
  flds : List Str

/-- o' is o, or an instance with more fields -/
def Grows (o o' : HO) : Prop := o' = o ∨ ∃ C dx fs more, o = .ins C dx fs ∧ o' = .ins C dx (fs ++ more)
theorem Grows.rfl' {o : HO} : Grows o o := .inl rfl
theorem Grows.trans {a b c : HO} (h : Grows a b) (h' : Grows b c) : Grows a c := by
  rcases h with rfl | ⟨C, dx, fs, more, rfl, rfl⟩
  · exact h'
  · rcases h' with rfl | ⟨C', dx', fs', more', e, rfl⟩
    · exact .inr ⟨_, _, _, _, rfl, rfl⟩
    · injection e with e1 e2 e3
      subst e1 e2 e3
      exact .inr ⟨C, dx, fs, more ++ more', rfl, by rw [List.append_assoc]⟩
theorem Grows.tup {xs : List V} {o : HO} (h : Grows (.tup xs) o) : o = .tup xs := by
  rcases h with rfl | ⟨_, _, _, _, e, _⟩
  · rfl
  · cases e
theorem Grows.lst {xs : List V} {o : HO} (h : Grows (.lst xs) o) : o = .lst xs := by
  rcases h with rfl | ⟨_, _, _, _, e, _⟩
  · rfl
  · cases e
theorem Grows.dK {xs : List (Key × V)} {o : HO} (h : Grows (.dK xs) o) : o = .dK xs := by
  rcases h with rfl | ⟨_, _, _, _, e, _⟩
  · rfl
  · cases e
theorem Grows.frz {ob : Obj} {u o : HO} (h : Grows (.frz ob u) o) : o = .frz ob u := by
  rcases h with rfl | ⟨_, _, _, _, e, _⟩
  · rfl
  · cases e
theorem Grows.xd {fs : List (Str × V)} {o : HO} (h : Grows (.xd fs) o) : o = .xd fs := by
  rcases h with rfl | ⟨_, _, _, _, e, _⟩
  · rfl
  · cases e
theorem Grows.ins {C dx : Addr} {fs : List (Str × V)} {o : HO} (h : Grows (.ins C dx fs) o) : ∃ more, o = .ins C dx (fs ++ more) := by
  rcases h with rfl | ⟨_, _, _, more, e, rfl⟩
  · exact ⟨[], by rw [List.append_nil]⟩
  · injection e with e1 e2 e3
    subst e1 e2 e3
    exact ⟨more, rfl⟩

/-- F is what never changes, of H -/
def Sub (F H : Hp) : Prop := ∀ a o, F a = some o → ∃ o', H a = some o' ∧ Grows o o'
theorem Sub.rfl' {F : Hp} : Sub F F := fun a o h => ⟨o, h, .rfl'⟩
theorem Sub.trans {F G H : Hp} (h : Sub F G) (h' : Sub G H) : Sub F H := fun a o e => by
  obtain ⟨o1, e1, g1⟩ := h a o e
  obtain ⟨o2, e2, g2⟩ := h' a o1 e1
  exact ⟨o2, e2, g1.trans g2⟩
theorem Sub.sqT {K : PySem.W.Frag} {F H : Hp} {a : Addr} {xs : List V} (h : Sub F H) (s : SqT K F a xs) : SqT K H a xs := by
  rcases s with (e | ⟨o, e⟩) | s
  · obtain ⟨o', e', g⟩ := h a _ e
    rw [g.tup] at e'
    exact .inl (.inl e')
  · obtain ⟨o', e', g⟩ := h a _ e
    rw [g.frz] at e'
    exact .inl (.inr ⟨o, e'⟩)
  · exact .inr s
theorem Sub.sqL {K : PySem.W.Frag} {F H : Hp} {a : Addr} {xs : List V} (h : Sub F H) (s : SqL K F a xs) : SqL K H a xs := by
  rcases s with (e | ⟨o, e⟩) | s
  · obtain ⟨o', e', g⟩ := h a _ e
    rw [g.lst] at e'
    exact .inl (.inl e')
  · obtain ⟨o', e', g⟩ := h a _ e
    rw [g.frz] at e'
    exact .inl (.inr ⟨o, e'⟩)
  · exact .inr s

mutual
/-- v stands for the tree, by what never changes -/
inductive Rep (G : Gm) (F : Hp) : D → V → Prop
  | non : Rep G F .non .non
  | bl {b} : Rep G F (.bl b) (.bl b)
  | int {i} : Rep G F (.int i) (.int i)
  | str {x} : Rep G F (.str x) (.str x)
  | tup {l a xs} (h : SqT G.K F a xs) (r : RepL G F l xs) : Rep G F (.tup l) (.ref a)
  | lst {l a xs} (h : F a = some (.lst xs)) (r : RepL G F l xs) : Rep G F (.lst l) (.ref a)
  | kl {l a xs} (h : SqL G.K F a xs) (r : RepL G F l xs) : Rep G F (.kl l) (.ref a)
  | dic {ks l a kvs} (h : F a = some (.dK kvs)) (hk : kvs.map (·.1) = ks) (r : RepL G F l (kvs.map (·.2))) : Rep G F (.dic ks l) (.ref a)
  | ob {c l a dx xs more} (h : F a = some (.ins (G.cA c) dx ((G.lay c).zip xs ++ more))) (hl : xs.length ≤ (G.lay c).length) (r : RepL G F l xs) : Rep G F (.ob c l) (.ref a)
inductive RepL (G : Gm) (F : Hp) : List D → List V → Prop
  | nil : RepL G F [] []
  | cons {d l v xs} (h : Rep G F d v) (t : RepL G F l xs) : RepL G F (d :: l) (v :: xs)
end
section
variable {G : Gm} {F F' H : Hp}
mutual
theorem Rep.mono (s : Sub F F') : ∀ {d : D} {v : V}, Rep G F d v → Rep G F' d v
  | _, _, .non => .non
  | _, _, .bl => .bl
  | _, _, .int => .int
  | _, _, .str => .str
  | _, _, .tup h r => .tup (s.sqT h) (RepL.mono s r)
  | _, _, .lst h r => by
    obtain ⟨o', e', g⟩ := s _ _ h
    rw [g.lst] at e'
    exact .lst e' (RepL.mono s r)
  | _, _, .kl h r => .kl (s.sqL h) (RepL.mono s r)
  | _, _, .dic h hk r => by
    obtain ⟨o', e', g⟩ := s _ _ h
    rw [g.dK] at e'
    exact .dic e' hk (RepL.mono s r)
  | _, _, .ob h hl r => by
    obtain ⟨o', e', g⟩ := s _ _ h
    obtain ⟨m, e⟩ := g.ins
    rw [e, List.append_assoc] at e'
    exact .ob e' hl (RepL.mono s r)
theorem RepL.mono (s : Sub F F') : ∀ {l : List D} {xs : List V}, RepL G F l xs → RepL G F' l xs
  | _, _, .nil => .nil
  | _, _, .cons h t => .cons (Rep.mono s h) (RepL.mono s t)
end
theorem RepL.length : ∀ {l : List D} {xs : List V}, RepL G F l xs → l.length = xs.length
  | _, _, .nil => rfl
  | _, _, .cons _ t => congrArg Nat.succ t.length
theorem RepL.get : ∀ {l : List D} {xs : List V} {i : Nat} {d : D}, RepL G F l xs → l[i]? = some d → ∃ v, xs[i]? = some v ∧ Rep G F d v
  | _, _, _, _, .nil, e => by simp at e
  | _, _, 0, _, .cons h _, e => by simp at e; subst e; exact ⟨_, rfl, h⟩
  | _, _, i + 1, _, .cons _ t, e => by
    obtain ⟨v, h1, h2⟩ := t.get (i := i) (by simpa using e)
    exact ⟨v, by simpa using h1, h2⟩
theorem RepL.get' : ∀ {l : List D} {xs : List V} {i : Nat} {v : V}, RepL G F l xs → xs[i]? = some v → ∃ d, l[i]? = some d ∧ Rep G F d v
  | _, _, _, _, .nil, e => by simp at e
  | _, _, 0, _, .cons h _, e => by simp at e; subst e; exact ⟨_, rfl, h⟩
  | _, _, i + 1, _, .cons _ t, e => by
    obtain ⟨v, h1, h2⟩ := t.get' (i := i) (by simpa using e)
    exact ⟨v, by simpa using h1, h2⟩
theorem RepL.app : ∀ {l l' : List D} {xs xs' : List V}, RepL G F l xs → RepL G F l' xs' → RepL G F (l ++ l') (xs ++ xs')
  | _, _, _, _, .nil, h => h
  | _, _, _, _, .cons r t, h => .cons r (RepL.app t h)
theorem RepL.take : ∀ {l : List D} {xs : List V} (n : Nat), RepL G F l xs → RepL G F (l.take n) (xs.take n)
  | _, _, 0, _ => by simp only [List.take_zero]; exact .nil
  | _, _, _ + 1, .nil => .nil
  | _, _, n + 1, .cons r t => .cons r (t.take n)
theorem RepL.drop : ∀ {l : List D} {xs : List V} (n : Nat), RepL G F l xs → RepL G F (l.drop n) (xs.drop n)
  | _, _, 0, r => r
  | _, _, _ + 1, .nil => .nil
  | _, _, n + 1, .cons _ t => t.drop n
theorem RepL.set {d : D} {v : V} (h : Rep G F d v) : ∀ {l : List D} {xs : List V} (n : Nat), RepL G F l xs → RepL G F (l.set n d) (xs.set n v)
  | _, _, _, .nil => .nil
  | _, _, 0, .cons _ t => .cons h t
  | _, _, n + 1, .cons r t => .cons r (t.set h n)
theorem RepL.ints : ∀ {ns : List Int} {xs : List V}, RepL G F (ns.map D.int) xs → xs = ns.map V.int
  | [], _, .nil => rfl
  | n :: ns, _, .cons h t => by cases h; rw [RepL.ints t]; rfl
theorem RepL.bls : ∀ {ns : List Bool} {xs : List V}, RepL G F (ns.map D.bl) xs → xs = ns.map V.bl
  | [], _, .nil => rfl
  | n :: ns, _, .cons h t => by cases h; rw [RepL.bls t]; rfl
theorem RepL.strs : ∀ {ns : List Str} {xs : List V}, RepL G F (ns.map D.str) xs → xs = ns.map V.str
  | [], _, .nil => rfl
  | n :: ns, _, .cons h t => by cases h; rw [RepL.strs t]; rfl
theorem RepL.ofInts : ∀ (ns : List Int), RepL G F (ns.map D.int) (ns.map V.int)
  | [] => .nil
  | n :: ns => .cons .int (RepL.ofInts ns)
end

theorem zip_pre {α β : Type} : ∀ (l : List α) (xs : List β) (n : Nat), ∃ more, l.zip xs = l.zip (xs.take n) ++ more
  | [], _, _ => ⟨[], rfl⟩
  | _ :: _, [], _ => ⟨[], by simp⟩
  | a :: l, x :: xs, 0 => ⟨(a :: l).zip (x :: xs), by simp⟩
  | a :: l, x :: xs, n + 1 => by
    obtain ⟨m, e⟩ := zip_pre l xs n
    exact ⟨m, by simp [e]⟩

/-- v is an object that this code alone may change: it stands in H for the tree -/
inductive Own (G : Gm) (F H : Hp) : D → V → Prop
  | lst {l a xs} (h : H a = some (.lst xs)) (hf : F a = none) (r : RepL G F l xs) : Own G F H (.lst l) (.ref a)
  | dic {ks l a kvs} (h : H a = some (.dK kvs)) (hf : F a = none) (hk : kvs.map (·.1) = ks) (r : RepL G F l (kvs.map (·.2))) : Own G F H (.dic ks l) (.ref a)
  | ob {c l a dx xs} (h : H a = some (.ins (G.cA c) dx ((G.lay c).zip xs))) (hf : F a = none ∨ (G.imm c = true ∧ ∃ n, F a = some (.ins (G.cA c) dx ((G.lay c).zip (xs.take n)))))
      (hl : xs.length ≤ (G.lay c).length) (r : RepL G F l xs) : Own G F H (.ob c l) (.ref a)
/-- instances have fields of the text alone -/
def Wf (G : Gm) (H : Hp) : Prop := ∀ a C dx fs f, H a = some (.ins C dx fs) → fs.lookup f ≠ none → f ∈ G.flds
def noIns : HO → Bool
  | .ins _ _ _ => false
  | _ => true
theorem Wf.upd {G : Gm} {H : Hp} (w : Wf G H) {p : Addr} {o : HO} (h : noIns o = true) : Wf G (upd H p o) := fun a C dx fs f e => by
  by_cases q : a = p
  · subst q
    rw [upd_same] at e
    cases e
    cases h
  · rw [upd_ne q] at e
    exact w a C dx fs f e
def OwnAt (O : List Nat) (σ : L2.St) (a : Addr) : Prop := ∃ i ∈ O, σ[i]? = some (some (.ref a))

/-- the slots stand for the environment; those of O are owned -/
structure Sta (G : Gm) (O : List Nat) (F H : Hp) (σ : L2.St) (r : Ev) : Prop where
  sub : Sub F H
  wf : Wf G H
  len : r.length = σ.length
  rp : ∀ i d, i ∉ O → r[i]? = some (some d) → ∃ v, σ[i]? = some (some v) ∧ Rep G F d v
  ow : ∀ i ∈ O, ∃ d v, r[i]? = some (some d) ∧ σ[i]? = some (some v) ∧ Own G F H d v
  dj : ∀ i j a, i ∈ O → j ∈ O → σ[i]? = some (some (.ref a)) → σ[j]? = some (some (.ref a)) → i = j

theorem upd_none {H : Hp} {a b : Addr} {o : HO} (h : upd H a o b = none) : H b = none := by
  unfold upd at h
  split at h
  · cases h
  · exact h
/-- from F, H to F', H': only what Mo lets, and new objects, changed -/
structure Stp (Mo : Addr → Prop) (F H F' H' : Hp) : Prop where
  fz : Sub F F'
  kp : ∀ a o, H a = some o → ¬ Mo a → H' a = some o
  nf : ∀ a o, H a = some o → ¬ Mo a → F' a = F a
  tr : ∀ a, H' a = none → H a = none
theorem Stp.rfl' {Mo : Addr → Prop} {F H : Hp} : Stp Mo F H F H := ⟨.rfl', fun _ _ h _ => h, fun _ _ _ _ => rfl, fun _ h => h⟩
theorem Stp.trans {Mo Mo1 : Addr → Prop} {F H F1 H1 F2 H2 : Hp} (a : Stp Mo F H F1 H1) (b : Stp Mo1 F1 H1 F2 H2) (hm : ∀ x, Mo1 x → Mo x ∨ H x = none) : Stp Mo F H F2 H2 where
  fz := a.fz.trans b.fz
  kp := fun x o h n => b.kp x o (a.kp x o h n) fun m => (hm x m).elim n fun e => by rw [e] at h; cases h
  nf := fun x o h n => (b.nf x o (a.kp x o h n) fun m => (hm x m).elim n fun e => by rw [e] at h; cases h).trans (a.nf x o h n)
  tr := fun x h => a.tr x (b.tr x h)
theorem Stp.weak {Mo Mo1 : Addr → Prop} {F H F1 H1 : Hp} (a : Stp Mo F H F1 H1) (hm : ∀ x, Mo x → Mo1 x) : Stp Mo1 F H F1 H1 := ⟨a.fz, fun x o h n => a.kp x o h fun m => n (hm x m), fun x o h n => a.nf x o h fun m => n (hm x m), a.tr⟩

theorem Own.mono {G : Gm} {F H F' H' : Hp} {d : D} {v : V} {Mo : Addr → Prop} (h : Own G F H d v) (s : Stp Mo F H F' H') (n : ∀ a, v = .ref a → ¬ Mo a) : Own G F' H' d v := by
  cases h with
  | lst h hf r => exact .lst (s.kp _ _ h (n _ rfl)) ((s.nf _ _ h (n _ rfl)).trans hf) (r.mono s.fz)
  | dic h hf hk r => exact .dic (s.kp _ _ h (n _ rfl)) ((s.nf _ _ h (n _ rfl)).trans hf) hk (r.mono s.fz)
  | ob h hf hl r =>
    refine .ob (s.kp _ _ h (n _ rfl)) ?_ hl (r.mono s.fz)
    rw [s.nf _ _ h (n _ rfl)]
    exact hf
theorem Own.there {G : Gm} {F H : Hp} {d : D} {v : V} (h : Own G F H d v) : ∃ a o, v = .ref a ∧ H a = some o := by
  cases h with
  | lst h _ _ => exact ⟨_, _, rfl, h⟩
  | dic h _ _ _ => exact ⟨_, _, rfl, h⟩
  | ob h _ _ _ => exact ⟨_, _, rfl, h⟩
/-- an owned object is given up: it never changes from here -/
theorem Own.freeze {G : Gm} {F H : Hp} {d : D} {v : V} (h : Own G F H d v) (sb : Sub F H) : ∃ F' a o, v = .ref a ∧ H a = some o ∧ F' = upd F a o ∧ Sub F F' ∧ Sub F' H ∧ Rep G F' d v := by
  have key : ∀ (a : Addr) (o : HO), H a = some o → (∀ u, F a = some u → Grows u o) → Sub F (upd F a o) ∧ Sub (upd F a o) H := fun a o e g => by
    refine ⟨fun b u hb => ?_, fun b u hb => ?_⟩
    · by_cases q : b = a
      · subst q
        exact ⟨o, upd_same, g u hb⟩
      · exact ⟨u, by rw [upd_ne q]; exact hb, .rfl'⟩
    · by_cases q : b = a
      · subst q
        rw [upd_same] at hb
        cases hb
        exact ⟨o, e, .rfl'⟩
      · rw [upd_ne q] at hb
        exact sb b u hb
  cases h with
  | @lst l a xs h hf r =>
    obtain ⟨k1, k2⟩ := key a _ h fun u e => by rw [hf] at e; cases e
    exact ⟨_, a, _, rfl, h, rfl, k1, k2, .lst upd_same (r.mono k1)⟩
  | @dic ks l a kvs h hf hk r =>
    obtain ⟨k1, k2⟩ := key a _ h fun u e => by rw [hf] at e; cases e
    exact ⟨_, a, _, rfl, h, rfl, k1, k2, .dic upd_same hk (r.mono k1)⟩
  | @ob c l a dx xs h hf hl r =>
    obtain ⟨k1, k2⟩ := key a _ h fun u e => by
      rcases hf with q | ⟨_, n, q⟩
      · rw [q] at e; cases e
      · rw [q] at e
        cases e
        obtain ⟨more, hz⟩ := zip_pre (G.lay c) xs n
        exact .inr ⟨_, _, _, more, rfl, by rw [← hz]⟩
    exact ⟨_, a, _, rfl, h, rfl, k1, k2, .ob (more := []) (by rw [List.append_nil]; exact upd_same) hl (r.mono k1)⟩

section
variable {G : Gm} {O : List Nat} {F H : Hp} {σ : L2.St} {r : Ev}
/-- the owned slots as they stand: their rows alone may have changed -/
theorem Sta.own_at (S : Sta G O F H σ r) {i : Nat} {d : D} (hi : i ∈ O) (e : r[i]? = some (some d)) : ∃ v, σ[i]? = some (some v) ∧ Own G F H d v := by
  obtain ⟨d', v, e1, e2, o⟩ := S.ow i hi
  rw [e] at e1
  cases e1
  exact ⟨v, e2, o⟩
/-- behind something that may change none of the owned -/
theorem Sta.stay {Mo : Addr → Prop} {F' H' : Hp} (S : Sta G O F H σ r) (s : Stp Mo F H F' H') (sb : Sub F' H') (wf : Wf G H') (n : ∀ a, OwnAt O σ a → ¬ Mo a) : Sta G O F' H' σ r where
  sub := sb
  wf := wf
  len := S.len
  rp := fun i d hi e => by
    obtain ⟨v, e1, h⟩ := S.rp i d hi e
    exact ⟨v, e1, h.mono s.fz⟩
  ow := fun i hi => by
    obtain ⟨d, v, e1, e2, o⟩ := S.ow i hi
    exact ⟨d, v, e1, e2, o.mono s fun a ea => n a ⟨i, hi, by rw [e2, ea]⟩⟩
  dj := S.dj
/-- a slot that is owned is given up -/
theorem Sta.freeze (S : Sta G O F H σ r) {i : Nat} {d : D} (hi : i ∈ O) (e : r[i]? = some (some d)) :
    ∃ F' v, σ[i]? = some (some v) ∧ Rep G F' d v ∧ Sta G (O.filter (· != i)) F' H σ r ∧ Stp (OwnAt O σ) F H F' H := by
  obtain ⟨v, e2, o⟩ := S.own_at hi e
  obtain ⟨F', a, ob, rfl, ha, rfl, k1, k2, rp⟩ := o.freeze S.sub
  have mem : ∀ {j}, j ∈ O.filter (· != i) → j ∈ O ∧ j ≠ i := fun {j} hj => by
    obtain ⟨h1, h2⟩ := List.mem_filter.mp hj
    exact ⟨h1, fun z => by simp [z] at h2⟩
  refine ⟨_, _, e2, rp, ⟨k2, S.wf, S.len, fun j dj hj ej => ?_, fun j hj => ?_, fun j k b hj hk => S.dj j k b (mem hj).1 (mem hk).1⟩, ⟨k1, fun b u h _ => h, fun b u h n => ?_, fun _ h => h⟩⟩
  · by_cases q : j = i
    · subst q
      rw [e] at ej
      cases ej
      exact ⟨_, e2, rp⟩
    · obtain ⟨w, ew, hw⟩ := S.rp j dj (fun z => hj (List.mem_filter.mpr ⟨z, by simp [q]⟩)) ej
      exact ⟨w, ew, hw.mono k1⟩
  · obtain ⟨hj, hne⟩ := mem hj
    obtain ⟨dj, w, e1, ew, ow⟩ := S.ow j hj
    refine ⟨dj, w, e1, ew, ?_⟩
    obtain ⟨b, ob', rfl, hb⟩ := ow.there
    have nb : b ≠ a := fun z => hne (S.dj j i a hj hi (by rw [ew, z]) e2)
    cases ow with
    | lst h hf rr => exact .lst h (by rw [upd_ne nb]; exact hf) (rr.mono k1)
    | dic h hf hk rr => exact .dic h (by rw [upd_ne nb]; exact hf) hk (rr.mono k1)
    | ob h hf hl rr => exact .ob h (by rw [upd_ne nb]; exact hf) hl (rr.mono k1)
  · have nb : b ≠ a := fun z => n ⟨i, hi, by rw [e2, z]⟩
    exact upd_ne nb
theorem OwnAt.sub {O O' : List Nat} {a : Addr} (h : ∀ i ∈ O', i ∈ O) (x : OwnAt O' σ a) : OwnAt O σ a := let ⟨i, hi, e⟩ := x; ⟨i, h i hi, e⟩
/-- a new object that never changes -/
theorem new_fz {p : Addr} {o : HO} (S : Sta G O F H σ r) (hp : H p = none) (hi : noIns o = true) : Sta G O (upd F p o) (upd H p o) σ r ∧ Stp (OwnAt O σ) F H (upd F p o) (upd H p o) := by
  have fp : F p = none := by
    cases q : F p with
    | none => rfl
    | some u =>
      obtain ⟨o', e, _⟩ := S.sub p u q
      rw [hp] at e
      cases e
  have s : Stp (fun _ => False) F H (upd F p o) (upd H p o) := ⟨fun a u e => ⟨u, by rw [upd_ne (ne_of_none e fp)]; exact e, .rfl'⟩, fun a u e _ => by rw [upd_ne (ne_of_none e hp)]; exact e, fun a u e _ => upd_ne (ne_of_none e hp), fun a e => upd_none e⟩
  refine ⟨S.stay s (fun a u e => ?_) (S.wf.upd hi) fun _ _ z => z, s.weak fun _ z => z.elim⟩
  by_cases q : a = p
  · subst q
    rw [upd_same] at e
    cases e
    exact ⟨o, upd_same, .rfl'⟩
  · rw [upd_ne q] at e
    obtain ⟨o', e', g⟩ := S.sub a u e
    exact ⟨o', by rw [upd_ne q]; exact e', g⟩
/-- a new object that is to change -/
theorem new_ow {p : Addr} {o : HO} (S : Sta G O F H σ r) (hp : H p = none) (hi : noIns o = true) : Sta G O F (upd H p o) σ r ∧ Stp (OwnAt O σ) F H F (upd H p o) ∧ F p = none := by
  have fp : F p = none := by
    cases q : F p with
    | none => rfl
    | some u =>
      obtain ⟨o', e, _⟩ := S.sub p u q
      rw [hp] at e
      cases e
  have s : Stp (fun _ => False) F H F (upd H p o) := ⟨.rfl', fun a u e _ => by rw [upd_ne (ne_of_none e hp)]; exact e, fun a u e _ => rfl, fun a e => upd_none e⟩
  refine ⟨S.stay s (fun a u e => ?_) (S.wf.upd hi) fun _ _ z => z, s.weak fun _ z => z.elim, fp⟩
  obtain ⟨o', e', g⟩ := S.sub a u e
  exact ⟨o', by rw [upd_ne (ne_of_none e' hp)]; exact e', g⟩
/-- a slot gets a value that never changes -/
theorem Sta.set (S : Sta G O F H σ r) (i : Nat) {d : D} {v : V} (h : Rep G F d v) : Sta G (O.filter (· != i)) F H (σ.set i (some v)) (r.set i (some d)) where
  sub := S.sub
  wf := S.wf
  len := by simp [S.len]
  rp := fun j dj hj e => by
    by_cases q : i = j
    · subst q
      by_cases hl : i < r.length
      · rw [List.getElem?_set_self hl] at e
        cases e
        exact ⟨v, List.getElem?_set_self (by rw [← S.len]; exact hl), h⟩
      · rw [List.getElem?_eq_none (by simp; omega)] at e
        cases e
    · rw [List.getElem?_set_ne q] at e
      rw [List.getElem?_set_ne q]
      exact S.rp j dj (fun z => hj (List.mem_filter.mpr ⟨z, by simp [Ne.symm q]⟩)) e
  ow := fun j hj => by
    obtain ⟨h1, h2⟩ := List.mem_filter.mp hj
    have q : i ≠ j := fun z => by simp [z] at h2
    rw [List.getElem?_set_ne q, List.getElem?_set_ne q]
    exact S.ow j h1
  dj := fun j k a hj hk ej ek => by
    obtain ⟨h1, h2⟩ := List.mem_filter.mp hj
    obtain ⟨h3, h4⟩ := List.mem_filter.mp hk
    have q : i ≠ j := fun z => by simp [z] at h2
    have q' : i ≠ k := fun z => by simp [z] at h4
    rw [List.getElem?_set_ne q] at ej
    rw [List.getElem?_set_ne q'] at ek
    exact S.dj j k a h1 h3 ej ek
/-- a slot gets a value that this code alone may change -/
theorem Sta.setOwn (S : Sta G O F H σ r) (i : Nat) {d : D} {v : V} (h : Own G F H d v) (hi : i < r.length) (hn : ∀ a, v = .ref a → ¬ OwnAt O σ a) : Sta G (i :: O.filter (· != i)) F H (σ.set i (some v)) (r.set i (some d)) where
  sub := S.sub
  wf := S.wf
  len := by simp [S.len]
  rp := fun j dj hj e => by
    have q : i ≠ j := fun z => hj (by rw [z]; exact List.mem_cons_self)
    rw [List.getElem?_set_ne q] at e
    rw [List.getElem?_set_ne q]
    exact S.rp j dj (fun z => hj (List.mem_cons_of_mem _ (List.mem_filter.mpr ⟨z, by simp [Ne.symm q]⟩))) e
  ow := fun j hj => by
    by_cases q : i = j
    · subst q
      exact ⟨d, v, List.getElem?_set_self hi, List.getElem?_set_self (by rw [← S.len]; exact hi), h⟩
    · rcases List.mem_cons.mp hj with z | hj
      · exact absurd z.symm q
      rw [List.getElem?_set_ne q, List.getElem?_set_ne q]
      exact S.ow j (List.mem_filter.mp hj).1
  dj := fun j k a hj hk ej ek => by
    have at_ : ∀ m, m ∈ i :: O.filter (· != i) → i ≠ m → m ∈ O := fun m hm q => by
      rcases List.mem_cons.mp hm with z | hm
      · exact absurd z.symm q
      · exact (List.mem_filter.mp hm).1
    have hl : i < σ.length := by rw [← S.len]; exact hi
    by_cases q : i = j
    · by_cases q' : i = k
      · exact q.symm.trans q'
      · subst q
        rw [List.getElem?_set_self hl] at ej
        rw [List.getElem?_set_ne q'] at ek
        exact absurd ⟨k, at_ k hk q', ek⟩ (hn a (by cases ej; rfl))
    · by_cases q' : i = k
      · subst q'
        rw [List.getElem?_set_self hl] at ek
        rw [List.getElem?_set_ne q] at ej
        exact absurd ⟨j, at_ j hj q, ej⟩ (hn a (by cases ek; rfl))
      · rw [List.getElem?_set_ne q] at ej
        rw [List.getElem?_set_ne q'] at ek
        exact S.dj j k a (at_ j hj q) (at_ k hk q') ej ek
end

/-- a step of the walk: from slots σ, F, H to σ', F', H', the environment r' -/
structure Nx (G : Gm) (OX O O' : List Nat) (σ : L2.St) (F H : Hp) (σ' : L2.St) (F' H' : Hp) (r' : Ev) : Prop where
  sta : Sta G O' F' H' σ' r'
  stp : Stp (OwnAt O σ) F H F' H'
  kp : ∀ i ∈ OX, σ'[i]? = σ[i]?
  pv : ∀ a, OwnAt O' σ' a → OwnAt O σ a ∨ H a = none
section
variable {G : Gm} {OX O O1 O2 O' : List Nat} {σ σ1 σ2 : L2.St} {F H F1 H1 F2 H2 : Hp} {r r1 r2 : Ev}
theorem Nx.rfl' (S : Sta G O F H σ r) : Nx G OX O O σ F H σ F H r := ⟨S, .rfl', fun _ _ => rfl, fun _ h => .inl h⟩
theorem Nx.trans (a : Nx G OX O O1 σ F H σ1 F1 H1 r1) (b : Nx G OX O1 O2 σ1 F1 H1 σ2 F2 H2 r2) : Nx G OX O O2 σ F H σ2 F2 H2 r2 where
  sta := b.sta
  stp := a.stp.trans b.stp a.pv
  kp := fun i hi => (b.kp i hi).trans (a.kp i hi)
  pv := fun x h => by
    rcases b.pv x h with q | q
    · exact a.pv x q
    · by_cases m : OwnAt O σ x
      · exact .inl m
      · cases e : H x with
        | none => exact .inr rfl
        | some o => rw [a.stp.kp x o e m] at q; cases q
/-- owned slots are given up, all but some -/
theorem Sta.freezeTo (OX : List Nat) : ∀ (n : Nat) {O : List Nat} {F : Hp}, (O.filter fun i => !OX.contains i).length = n → (∀ i ∈ OX, i ∈ O) → Sta G O F H σ r → ∃ F', Sta G OX F' H σ r ∧ Stp (OwnAt O σ) F H F' H := by
  intro n
  induction n using Nat.strongRecOn with
  | _ n ih =>
    intro O F hn hx S
    cases q : O.filter fun i => !OX.contains i with
    | nil =>
      have sub : ∀ i ∈ O, i ∈ OX := fun i hi => by
        by_cases m : i ∈ OX
        · exact m
        · have : i ∈ O.filter fun i => !OX.contains i := List.mem_filter.mpr ⟨hi, by simp [m]⟩
          rw [q] at this
          cases this
      exact ⟨F, ⟨S.sub, S.wf, S.len, fun i d hi => S.rp i d fun z => hi (sub i z), fun i hi => S.ow i (hx i hi), fun i j a hi hj => S.dj i j a (hx i hi) (hx j hj)⟩, .rfl'⟩
    | cons i l =>
      have hi : i ∈ O.filter fun i => !OX.contains i := by rw [q]; exact List.mem_cons_self
      obtain ⟨h1, h2⟩ := List.mem_filter.mp hi
      have hni : i ∉ OX := by simpa using h2
      obtain ⟨d, v, e1, _, _⟩ := S.ow i h1
      obtain ⟨F1, v', _, _, S1, s1⟩ := S.freeze h1 e1
      have hlt : ((O.filter (· != i)).filter fun i => !OX.contains i).length < n := by
        rw [← hn, List.filter_filter]
        refine Nat.lt_of_lt_of_le ?_ (Nat.le_refl _)
        have : (O.filter fun a => (!OX.contains a) && (a != i)) = (O.filter fun a => !OX.contains a).filter (· != i) := by
          rw [List.filter_filter]
          congr 1
          funext a
          exact Bool.and_comm _ _
        rw [this]
        exact List.length_filter_lt_length_iff_exists.mpr ⟨i, hi, by simp⟩
      obtain ⟨F2, S2, s2⟩ := ih _ hlt rfl (fun j hj => List.mem_filter.mpr ⟨hx j hj, by simp; exact fun z => hni (z ▸ hj)⟩) S1
      exact ⟨F2, S2, s1.trans s2 fun x m => .inl (m.sub fun j hj => (List.mem_filter.mp hj).1)⟩
theorem Nx.freeze (a : Nx G OX O O1 σ F H σ1 F1 H1 r1) {OY : List Nat} (hx : ∀ i ∈ OY, i ∈ O1) : ∃ F2, Nx G OX O OY σ F H σ1 F2 H1 r1 ∧ Sub F1 F2 := by
  obtain ⟨F2, S2, s2⟩ := Sta.freezeTo OY _ rfl hx a.sta
  exact ⟨F2, a.trans ⟨S2, s2, fun _ _ => rfl, fun x m => .inl (m.sub hx)⟩, s2.fz⟩
/-- an expression's step leaves the slots -/
theorem Nx.of (S : Sta G O1 F1 H1 σ r1) (s : Stp (OwnAt O σ) F H F1 H1) (h : ∀ i ∈ O1, i ∈ O) : Nx G OX O O1 σ F H σ F1 H1 r1 := ⟨S, s, fun _ _ => rfl, fun _ m => .inl (m.sub h)⟩
end

/-- an exception as it flies: its class, its own dict -/
inductive XRep (G : Gm) (F : Hp) : D → Value → Option Addr → Prop
  | mk {c l d fs} (h : F d = some (.xd fs)) (hl : l.length = (G.lay c).length) (r : ∀ (i : Nat) (f : Str) (x : D), (G.lay c)[i]? = some f → l[i]? = some x → ∃ v, fs.lookup f = some v ∧ Rep G F x v) : XRep G F (.xo c l) (.ref (G.cA c)) (some d)
  | bare {c} : XRep G F (.xo c []) (.ref (G.cA c)) none
theorem XRep.mono {G : Gm} {F F' : Hp} {e : D} {c : Value} {dx : Option Addr} (h : XRep G F e c dx) (s : Sub F F') : XRep G F' e c dx := by
  cases h with
  | mk h hl r =>
    obtain ⟨o', e', g⟩ := s _ _ h
    rw [g.xd] at e'
    exact .mk e' hl fun i f x a b => by
      obtain ⟨v, h1, h2⟩ := r i f x a b
      exact ⟨v, h1, h2.mono s⟩
  | bare => exact .bare

/-- what is wanted behind an expression (a test, arguments), by its outcome -/
def Pst {α β : Type} (G : Gm) (W : WX) (OX O O' : List Nat) (σ : L2.St) (F H : Hp) (Rl : Hp → Hp → α → β → Prop) (Q : β → Hp → Prop) : Out α → Prop
  | .ok a r' => ∀ b F' H', Nx G OX O O' σ F H σ F' H' r' → Rl F' H' a b → Q b H'
  | .ex e r' => ∀ c dx F' H', Nx G OX O OX σ F H σ F' H' r' → XRep G F' e c dx → W c dx σ H'
  | .no => False
def tX {α β : Type} (G : Gm) (W : WX) (OX O O' : List Nat) (Rl : Hp → Hp → α → β → Prop) (f : M α) : L2.St → Hp → (β → Hp → Prop) → Prop := fun σ H Q => ∃ F r, Sta G O F H σ r ∧ Pst G W OX O O' σ F H Rl Q (f r)
abbrev RD (G : Gm) : Hp → Hp → D → V → Prop := fun F _ d v => Rep G F d v
abbrev RB : Hp → Hp → Bool → Bool → Prop := fun _ _ a b => a = b
abbrev RS (G : Gm) : Hp → Hp → List D → List V → Prop := fun F _ d v => RepL G F d v
/-- .. or this code's own -/
abbrev RP (G : Gm) : Hp → Hp → D → V → Prop := fun F H d v => Rep G F d v ∨ Own G F H d v
/-- a new object, this code's own -/
abbrev RF (G : Gm) (O : List Nat) (σ : L2.St) (H0 : Hp) : Hp → Hp → D → V → Prop := fun F H d v => Own G F H d v ∧ ∀ a, v = .ref a → H0 a = none ∧ ¬ OwnAt O σ a
abbrev tE (G : Gm) (W : WX) (OX O O' : List Nat) (f : M D) : TE := tX G W OX O O' (RD G) f
abbrev tP (G : Gm) (W : WX) (OX O O' : List Nat) (f : M D) : TE := tX G W OX O O' (RP G) f
def tF (G : Gm) (W : WX) (OX O O' : List Nat) (f : M D) : TE := fun σ H Q => tX G W OX O O' (RF G O' σ H) f σ H Q
abbrev tT (G : Gm) (W : WX) (OX O O' : List Nat) (f : M Bool) : TT := tX G W OX O O' RB f
abbrev tA (G : Gm) (W : WX) (OX O O' : List Nat) (f : M (List D)) : TA := tX G W OX O O' (RS G) f
/-- one behind another -/
theorem Pst.bind {α β γ δ : Type} {G : Gm} {W : WX} {OX O O1 O2 : List Nat} {σ : L2.St} {F H : Hp} {Rl : Hp → Hp → α → β → Prop} {Rl' : Hp → Hp → γ → δ → Prop} {o : Out α} {k : α → M γ} {Q' : δ → Hp → Prop} (p : Pst G W OX O O2 σ F H Rl' Q' (o.bind k)) :
    Pst G W OX O O1 σ F H Rl (fun b H1 => ∃ a F1 r1, Nx G OX O O1 σ F H σ F1 H1 r1 ∧ Rl F1 H1 a b ∧ Pst G W OX O1 O2 σ F1 H1 Rl' Q' (k a r1)) o := by
  revert p
  cases o with
  | no => exact fun p => p
  | ex e r' => exact fun p => p
  | ok a r1 =>
    intro p b F1 H1 n1 rl
    have p : Pst G W OX O O2 σ F H Rl' Q' (k a r1) := p
    refine ⟨a, F1, r1, n1, rl, ?_⟩
    revert p
    cases k a r1 with
    | no => exact fun p => p
    | ex e r' => exact fun p c dx F' H' n x => p c dx F' H' (n1.trans n) x
    | ok a' r' => exact fun p b' F' H' n x => p b' F' H' (n1.trans n) x
theorem Pst.mono {α β : Type} {G : Gm} {W : WX} {OX O O1 : List Nat} {σ : L2.St} {F H : Hp} {Rl : Hp → Hp → α → β → Prop} {o : Out α} {Q Q' : β → Hp → Prop} (p : Pst G W OX O O1 σ F H Rl Q o) (h : ∀ b H, Q b H → Q' b H) : Pst G W OX O O1 σ F H Rl Q' o := by
  revert p
  cases o with
  | no => exact fun p => p
  | ex e r' => exact fun p => p
  | ok a r1 => exact fun p b F1 H1 n rl => h b H1 (p b F1 H1 n rl)
theorem tX_bind {α β γ δ : Type} {G : Gm} {W : WX} {OX O O1 O2 : List Nat} {σ : L2.St} {F H : Hp} {r : Ev} {Rl : Hp → Hp → α → β → Prop} {Rl' : Hp → Hp → γ → δ → Prop} {f : M α} {k : α → M γ} {Q : β → Hp → Prop} {Q' : δ → Hp → Prop}
    (S : Sta G O F H σ r) (p : Pst G W OX O O2 σ F H Rl' Q' ((f r).bind k))
    (hk : ∀ (a : α) (b : β) (F1 H1 : Hp) (r1 : Ev), Nx G OX O O1 σ F H σ F1 H1 r1 → Rl F1 H1 a b → Pst G W OX O1 O2 σ F1 H1 Rl' Q' (k a r1) → Q b H1) : tX G W OX O O1 Rl f σ H Q :=
  ⟨F, r, S, p.bind.mono fun b H1 ⟨a, F1, r1, n, rl, p⟩ => hk a b F1 H1 r1 n rl p⟩
theorem _root_.L2.PE.imp {X : Cx} {e : Expr} {t t' : TE} (h : PE X e t) (i : ∀ σ H Q, t' σ H Q → t σ H Q) : PE X e t' := ⟨fun pins s σ H Q I q => h.run pins s σ H Q I (i σ H Q q)⟩
theorem _root_.L2.PT.imp {X : Cx} {e : Expr} {t t' : TT} (h : PT X e t) (i : ∀ σ H Q, t' σ H Q → t σ H Q) : PT X e t' := ⟨fun pins s σ H Q I q => h.run pins s σ H Q I (i σ H Q q)⟩
theorem _root_.L2.PA.imp {X : Cx} {e : List Expr} {t t' : TA} (h : PA X e t) (i : ∀ σ H Q, t' σ H Q → t σ H Q) : PA X e t' := ⟨fun pos pins s σ H Q I q => h.run pos pins s σ H Q I (i σ H Q q)⟩
theorem _root_.L2.PS.imp {X : Cx} {e : Stmt} {t t' : TS} (h : PS X e t) (i : ∀ D σ H, t' D σ H → t D σ H) : PS X e t' := ⟨fun pins s σ H D I q => h.run pins s σ H D I (i D σ H q)⟩
theorem _root_.L2.PSs.imp {X : Cx} {e : List Stmt} {t t' : TS} (h : PSs X e t) (i : ∀ D σ H, t' D σ H → t D σ H) : PSs X e t' := ⟨fun pins s σ H D I q => h.run pins s σ H D I (i D σ H q)⟩
end Z

/-! Expressions: names, constants, tests, operators on plain values. -/
namespace Z
open PySem PySem.Spec PyProof.Rows L2

/-! ### behaviours -/
@[simp] def eV (i : Nat) : M D := fun r => match r[i]? with
  | some (some d) => .ok d r
  | _ => .no
@[simp] def eS (imm : Nat → Bool) (i : Nat) : M D := fun r => match r[i]? with
  | some (some (.ob c l)) => if imm c then .ok (.ob c l) r else .no
  | _ => .no
@[simp] def eK (d : D) : M D := fun r => .ok d r
@[simp] def eAnd (f g : M D) : M D := fun r => (f r).bind fun x r1 => match x with
  | .bl true => g r1
  | .bl false => .ok (.bl false) r1
  | _ => .no
@[simp] def eOr (f g : M D) : M D := fun r => (f r).bind fun x r1 => match x with
  | .bl true => .ok (.bl true) r1
  | .bl false => g r1
  | _ => .no
@[simp] def eNot (f : M D) : M D := fun r => (f r).bind fun x r1 => match x with
  | .bl b => .ok (.bl (!b)) r1
  | _ => .no
@[simp] def eIf (t : M Bool) (f g : M D) : M D := fun r => (t r).bind fun b r1 => if b then f r1 else g r1
@[simp] def tV (f : M D) : M Bool := fun r => (f r).bind fun x r1 => match x with
  | .bl b => .ok b r1
  | _ => .no
@[simp] def tAn (f g : M Bool) : M Bool := fun r => (f r).bind fun b r1 => if b then g r1 else .ok false r1
@[simp] def tOn (f g : M Bool) : M Bool := fun r => (f r).bind fun b r1 => if b then .ok true r1 else g r1
@[simp] def tNo (f : M Bool) : M Bool := fun r => (f r).bind fun b r1 => .ok (!b) r1
@[simp] def D.isNon : D → Bool
  | .non => true
  | _ => false
@[simp] def eIsN (f : M D) : M D := fun r => (f r).bind fun x r1 => .ok (.bl x.isNon) r1
@[simp] def eNotN (f : M D) : M D := fun r => (f r).bind fun x r1 => .ok (.bl (!x.isNon)) r1
@[simp] def aNil : M (List D) := fun r => .ok [] r
@[simp] def aCons (f : M D) (g : M (List D)) : M (List D) := fun r => (f r).bind fun x r1 => (g r1).bind fun xs r2 => .ok (x :: xs) r2
/-- a plain operation of two values -/
@[simp] def liftO (o : Option D) (r : Ev) : Out D := match o with
  | some d => .ok d r
  | none => .no
@[simp] def eB (o : D → D → Ev → Out D) (f g : M D) : M D := fun r => (f r).bind fun x r1 => (g r1).bind fun y r2 => o x y r2
@[simp] def eU (o : D → Ev → Out D) (f : M D) : M D := fun r => (f r).bind fun x r1 => o x r1
/-- a op b op' c, b asked once -/
@[simp] def onBl {α : Type} (z : D) (k : Bool → Out α) : Out α := match z with
  | .bl b => k b
  | _ => .no
@[simp] def eChain (o o' : D → D → Ev → Out D) (f g h : M D) : M D := fun r => (f r).bind fun x r1 => (g r1).bind fun y r2 => (o x y r2).bind fun z r3 => onBl z fun b => if b then (h r3).bind fun w r4 => o' y w r4 else .ok (.bl false) r3

section
variable {G : Gm} {X : Cx} {W : WX} {OX O O1 O2 O3 : List Nat}

theorem Pst.ok {α β : Type} {σ : L2.St} {F H : Hp} {r : Ev} {Rl : Hp → Hp → α → β → Prop} {Q : β → Hp → Prop} {a : α} {b : β} (S : Sta G O F H σ r) (rl : Rl F H a b) (p : Pst G W OX O O σ F H Rl Q (.ok a r)) : Q b H := p b F H (Nx.rfl' S) rl

/-! ### names -/
theorem e_var {x : Str} {pos : Pos} (i : Nat) (hi : i ∉ O := by decide) (hN : X.N[i]? = some x := by rfl) (hv : Vis X.env.scope x := by first | exact Or.inl rfl | exact Or.inr (Or.inl rfl) | exact Or.inr (Or.inr rfl))
    (hd : (x == ("__debug__" : Str)) = false := by decide) (hcd : (x == ("__classdict__" : Str)) = false := by decide) : PE X (.Name x pos) (tE G W OX O O (eV i)) :=
  (pe_var hN hv hd hcd).imp fun σ H Q ⟨F, r, S, p⟩ => by
    simp only [eV] at p
    revert p
    split
    · rename_i d e
      intro p
      obtain ⟨v, e1, h⟩ := S.rp i d hi e
      exact ⟨v, e1, p.ok S h⟩
    · exact fun p => p.elim
theorem e_varF {x : Str} {pos : Pos} (i : Nat) (hi : i ∈ O := by decide) (hN : X.N[i]? = some x := by rfl) (hv : Vis X.env.scope x := by first | exact Or.inl rfl | exact Or.inr (Or.inl rfl) | exact Or.inr (Or.inr rfl))
    (hd : (x == ("__debug__" : Str)) = false := by decide) (hcd : (x == ("__classdict__" : Str)) = false := by decide) : PE X (.Name x pos) (tE G W OX O (O.filter (· != i)) (eV i)) :=
  (pe_var hN hv hd hcd).imp fun σ H Q ⟨F, r, S, p⟩ => by
    simp only [eV] at p
    revert p
    split
    · rename_i d e
      intro p
      obtain ⟨F', v, e1, h, S', s'⟩ := S.freeze hi e
      exact ⟨v, e1, p v F' H (Nx.of S' s' fun j hj => (List.mem_filter.mp hj).1) h⟩
    · exact fun p => p.elim
/-- an object that its __init__ is making, as a value -/
theorem e_self {x : Str} {pos : Pos} (i : Nat) (hi : i ∈ O := by decide) (hN : X.N[i]? = some x := by rfl) (hv : Vis X.env.scope x := by first | exact Or.inl rfl | exact Or.inr (Or.inl rfl) | exact Or.inr (Or.inr rfl))
    (hd : (x == ("__debug__" : Str)) = false := by decide) (hcd : (x == ("__classdict__" : Str)) = false := by decide) : PE X (.Name x pos) (tE G W OX O O (eS G.imm i)) :=
  (pe_var hN hv hd hcd).imp fun σ H Q ⟨F, r, S, p⟩ => by
    simp only [eS] at p
    revert p
    split
    · rename_i c l e
      split
      · rename_i him
        intro p
        obtain ⟨v, e1, o⟩ := S.own_at hi e
        obtain ⟨F', a, ob, rfl, ha, rfl, k1, k2, rp⟩ := o.freeze S.sub
        have nb : ∀ {b}, ¬ OwnAt O σ b → b ≠ a := fun {b} n z => n ⟨i, hi, by rw [e1, z]⟩
        have st : Stp (OwnAt O σ) F H (upd F a ob) H := ⟨k1, fun _ _ h _ => h, fun b u h n => upd_ne (nb n), fun _ h => h⟩
        refine ⟨_, e1, p _ (upd F a ob) H (Nx.of ⟨k2, S.wf, S.len, fun j dj hj ej => ?_, fun j hj => ?_, S.dj⟩ st fun j hj => hj) rp⟩
        · obtain ⟨w, ew, hw⟩ := S.rp j dj hj ej
          exact ⟨w, ew, hw.mono k1⟩
        · by_cases q : j = i
          · subst q
            refine ⟨_, _, e, e1, ?_⟩
            cases o with
            | @ob _ _ _ dx xs h hf hl rr =>
              have eo : ob = HO.ins (G.cA c) dx ((G.lay c).zip xs) := by
                rw [ha] at h
                exact Option.some.inj h
              subst eo
              exact .ob h (.inr ⟨him, xs.length, by rw [List.take_length]; exact upd_same⟩) hl (rr.mono k1)
          · obtain ⟨dj, w, e1', ew, ow⟩ := S.ow j hj
            refine ⟨dj, w, e1', ew, ?_⟩
            obtain ⟨b, ob', rfl, hb⟩ := ow.there
            have nb : b ≠ a := fun z => q (S.dj j i a hj hi (by rw [ew, z]) e1)
            cases ow with
            | lst h hf rr => exact .lst h (by rw [upd_ne nb]; exact hf) (rr.mono k1)
            | dic h hf hk rr => exact .dic h (by rw [upd_ne nb]; exact hf) hk (rr.mono k1)
            | ob h hf hl rr => exact .ob h (by rw [upd_ne nb]; exact hf) hl (rr.mono k1)
      · exact fun p => p.elim
    · exact fun p => p.elim

/-! ### constants -/
theorem e_of {e : Expr} {v : V} {d : D} (h : PE X e (tC v)) (hr : ∀ F, Rep G F d v) : PE X e (tE G W OX O O (eK d)) := h.imp fun σ H Q ⟨F, r, S, p⟩ => p.ok S (hr F)
theorem e_int {i : Int} {j pos} : PE X (.Constant (.int i) j pos) (tE G W OX O O (eK (.int i))) := e_of pe_int fun _ => .int
theorem e_bl {b j pos} : PE X (.Constant (.bool b) j pos) (tE G W OX O O (eK (.bl b))) := e_of pe_bl fun _ => .bl
theorem e_non {j pos} : PE X (.Constant .none j pos) (tE G W OX O O (eK .non)) := e_of pe_non fun _ => .non
theorem e_str {x j pos} : PE X (.Constant (.str x) j pos) (tE G W OX O O (eK (.str x))) := e_of pe_str fun _ => .str

/-! ### two in a row -/
theorem e_and {a b : Expr} {rest : List Expr} {pos : Pos} {f g : M D} (ha : PE X a (tE G W OX O O1 f)) (hb : PE X (.BoolOp .And (b :: rest) pos) (tE G W OX O1 O1 g)) : PE X (.BoolOp .And (a :: b :: rest) pos) (tE G W OX O O1 (eAnd f g)) :=
  (pe_and ha hb).imp fun σ H Q ⟨F, r, S, p⟩ => tX_bind S p fun x v F1 H1 r1 n1 rx p => by
    revert p
    split
    · intro p
      cases rx
      exact ⟨true, rfl, by rw [if_pos rfl]; exact ⟨F1, r1, n1.sta, p⟩⟩
    · intro p
      cases rx
      exact ⟨false, rfl, by rw [if_neg (by decide)]; exact p.ok n1.sta .bl⟩
    · exact fun p => p.elim
theorem e_or {a b : Expr} {rest : List Expr} {pos : Pos} {f g : M D} (ha : PE X a (tE G W OX O O1 f)) (hb : PE X (.BoolOp .Or (b :: rest) pos) (tE G W OX O1 O1 g)) : PE X (.BoolOp .Or (a :: b :: rest) pos) (tE G W OX O O1 (eOr f g)) :=
  (pe_or ha hb).imp fun σ H Q ⟨F, r, S, p⟩ => tX_bind S p fun x v F1 H1 r1 n1 rx p => by
    revert p
    split
    · intro p
      cases rx
      exact ⟨true, rfl, by rw [if_pos rfl]; exact p.ok n1.sta .bl⟩
    · intro p
      cases rx
      exact ⟨false, rfl, by rw [if_neg (by decide)]; exact ⟨F1, r1, n1.sta, p⟩⟩
    · exact fun p => p.elim
theorem e_not {a : Expr} {pos : Pos} {f : M D} (ha : PE X a (tE G W OX O O1 f)) : PE X (.UnaryOp .Not a pos) (tE G W OX O O1 (eNot f)) :=
  (pe_not ha).imp fun σ H Q ⟨F, r, S, p⟩ => tX_bind S p fun x v F1 H1 r1 n1 rx p => by
    revert p
    split
    · intro p
      cases rx
      exact ⟨_, rfl, p.ok n1.sta .bl⟩
    · exact fun p => p.elim
theorem e_if {c a b : Expr} {pos : Pos} {t : M Bool} {f g : M D} (hc : PT X c (tT G W OX O O1 t)) (ha : PE X a (tE G W OX O1 O2 f)) (hb : PE X b (tE G W OX O1 O2 g)) : PE X (.IfExp c a b pos) (tE G W OX O O2 (eIf t f g)) :=
  (pe_ifExp hc ha hb).imp fun σ H Q ⟨F, r, S, p⟩ => tX_bind S p fun x v F1 H1 r1 n1 rx p => by
    subst rx
    cases x with
    | true => exact ⟨F1, r1, n1.sta, p⟩
    | false => exact ⟨F1, r1, n1.sta, p⟩
/-! ### tests -/
theorem t_val {e : Expr} {f : M D} (h : PE X e (tE G W OX O O1 f)) (he : ∀ whole, isTrue e X.env whole = (do let v ← whole; standAt e.pos; holding [v] (truthy v)) := by intro _; rfl) : PT X e (tT G W OX O O1 (tV f)) :=
  (pt_val h he).imp fun σ H Q ⟨F, r, S, p⟩ => tX_bind S p fun x v F1 H1 r1 n1 rx p => by
    revert p
    split
    · intro p
      cases rx
      exact ⟨_, rfl, p.ok n1.sta rfl⟩
    · exact fun p => p.elim
structure PWt (X : Cx) (e : Expr) (t : TT) : Prop where
  w : PW X e t
theorem w_and1 {a : Expr} {pos : Pos} {t : TT} (h : PT X a t) : PWt X (.BoolOp .And [a] pos) t := ⟨pw_and1 h⟩
theorem w_or1 {a : Expr} {pos : Pos} {t : TT} (h : PT X a t) : PWt X (.BoolOp .Or [a] pos) t := ⟨pw_or1 h⟩
theorem _root_.L2.PW.imp {X : Cx} {e : Expr} {t t' : TT} (h : PW X e t) (i : ∀ σ H Q, t' σ H Q → t σ H Q) : PW X e t' := ⟨fun wh pins s σ H Q I q => h.run wh pins s σ H Q I (i σ H Q q)⟩
theorem w_and {a b : Expr} {rest : List Expr} {pos : Pos} {f g : M Bool} (ha : PT X a (tT G W OX O O1 f)) (hb : PWt X (.BoolOp .And (b :: rest) pos) (tT G W OX O1 O1 g)) : PWt X (.BoolOp .And (a :: b :: rest) pos) (tT G W OX O O1 (tAn f g)) :=
  ⟨(pw_and ha hb.w).imp fun σ H Q ⟨F, r, S, p⟩ => tX_bind S p fun x v F1 H1 r1 n1 rx p => by
    subst rx
    cases x with
    | true => exact ⟨F1, r1, n1.sta, p⟩
    | false => exact p.ok n1.sta rfl⟩
theorem w_or {a b : Expr} {rest : List Expr} {pos : Pos} {f g : M Bool} (ha : PT X a (tT G W OX O O1 f)) (hb : PWt X (.BoolOp .Or (b :: rest) pos) (tT G W OX O1 O1 g)) : PWt X (.BoolOp .Or (a :: b :: rest) pos) (tT G W OX O O1 (tOn f g)) :=
  ⟨(pw_or ha hb.w).imp fun σ H Q ⟨F, r, S, p⟩ => tX_bind S p fun x v F1 H1 r1 n1 rx p => by
    subst rx
    cases x with
    | true => exact p.ok n1.sta rfl
    | false => exact ⟨F1, r1, n1.sta, p⟩⟩
theorem t_bo {e : Expr} {t : TT} (h : PWt X e t) : PT X e t := h.w.pt
theorem t_not {a : Expr} {pos : Pos} {f : M Bool} (ha : PT X a (tT G W OX O O1 f)) : PT X (.UnaryOp .Not a pos) (tT G W OX O O1 (tNo f)) :=
  (pt_not ha).imp fun σ H Q ⟨F, r, S, p⟩ => tX_bind S p fun x v F1 H1 r1 n1 rx p => by
    subst rx
    exact p.ok n1.sta rfl
/-! ### is None -/
theorem Rep.isN {F : Hp} {x : D} {v : V} (h : Rep G F x v) : decide (v = V.non) = x.isNon := by cases h <;> rfl
theorem e_isN {a : Expr} {j pos pos'} {f : M D} (ha : PE X a (tE G W OX O O1 f)) : PE X (.Compare a [.Is] [.Constant .none j pos'] pos) (tE G W OX O O1 (eIsN f)) :=
  (pe_cmp (pc_isN ha) rfl).imp fun σ H Q ⟨F, r, S, p⟩ => tX_bind S p fun x v F1 H1 r1 n1 rx p => by
    rw [rx.isN]
    exact p.ok n1.sta .bl
theorem e_notN {a : Expr} {j pos pos'} {f : M D} (ha : PE X a (tE G W OX O O1 f)) : PE X (.Compare a [.IsNot] [.Constant .none j pos'] pos) (tE G W OX O O1 (eNotN f)) :=
  (pe_cmp (pc_notN ha) rfl).imp fun σ H Q ⟨F, r, S, p⟩ => tX_bind S p fun x v F1 H1 r1 n1 rx p => by
    rw [rx.isN]
    exact p.ok n1.sta .bl
/-! ### arguments -/
theorem a_nil : PA X [] (tA G W OX O O aNil) := pa_nil.imp fun σ H Q ⟨F, r, S, p⟩ => p.ok S .nil
theorem a_cons {e : Expr} {es : List Expr} {f : M D} {g : M (List D)} (ha : PE X e (tE G W OX O O1 f)) (hr : PA X es (tA G W OX O1 O2 g)) (hs : starEach (e :: es) X.env = (false, eval e X.env) :: starEach es X.env := by rfl) :
    PA X (e :: es) (tA G W OX O O2 (aCons f g)) :=
  (pa_cons ha hr hs).imp fun σ H Q ⟨F, r, S, p⟩ => tX_bind S p fun x v F1 H1 r1 n1 rx p => tX_bind n1.sta p fun xs vs F2 H2 r2 n2 rxs p2 =>
    p2.ok n2.sta (.cons (rx.mono n2.stp.fz) rxs)

/-! ### operators of two values, by what they do to trees -/
/-- f does to values what o does to trees -/
def Op2 (G : Gm) (X : Cx) (W : WX) (OX O : List Nat) (f : Value → Value → Sem Value) (o : D → D → Ev → Out D) : Prop :=
  ∀ (pins : List (Addr × Obj)) (s : Shared) (σ : L2.St) (F H : Hp) (r : Ev) (x y : D) (v w : V) (u u' : Value) (Q : VK), Inv X pins σ H s → Sta G O F H σ r → Rep G F x v → Rep G F y w → RelV v u → RelV w u' →
    Pst G W OX O O σ F H (RD G) Q (o x y r) → wpAny (model X.prog X.w) X.A (f u u') (EP X pins σ Q) X.xe s
def Op1 (G : Gm) (X : Cx) (W : WX) (OX O : List Nat) (f : Value → Sem Value) (o : D → Ev → Out D) : Prop :=
  ∀ (pins : List (Addr × Obj)) (s : Shared) (σ : L2.St) (F H : Hp) (r : Ev) (x : D) (v : V) (u : Value) (Q : VK), Inv X pins σ H s → Sta G O F H σ r → Rep G F x v → RelV v u →
    Pst G W OX O O σ F H (RD G) Q (o x r) → wpAny (model X.prog X.w) X.A (f u) (EP X pins σ Q) X.xe s

theorem Op2.of {f : Value → Value → Sem Value} {o : D → D → Ev → Out D} {h : R2} (ho : OpR X f h)
    (hp : ∀ (σ : L2.St) (F H : Hp) (r : Ev) (x y : D) (v w : V) (Q : VK), Sta G O F H σ r → Rep G F x v → Rep G F y w → Pst G W OX O O σ F H (RD G) Q (o x y r) → h v w H Q) : Op2 G X W OX O f o :=
  fun pins s σ F H r x y v w u u' Q I S rx ry ru ru' p => ho pins s σ H v w u u' Q I ru ru' (hp σ F H r x y v w Q S rx ry p)
theorem Op1.of {f : Value → Sem Value} {o : D → Ev → Out D} {h : V → Hp → VK → Prop} (ho : UnR X f h)
    (hp : ∀ (σ : L2.St) (F H : Hp) (r : Ev) (x : D) (v : V) (Q : VK), Sta G O F H σ r → Rep G F x v → Pst G W OX O O σ F H (RD G) Q (o x r) → h v H Q) : Op1 G X W OX O f o :=
  fun pins s σ F H r x v u Q I S rx ru p => ho pins s σ H v u Q I ru (hp σ F H r x v Q S rx p)
/-- two behind one another, both values at hand -/
theorem two {a b : Expr} {f g : M D} {k : D → D → Ev → Out D} (ha : PE X a (tE G W OX O O1 f)) (hb : PE X b (tE G W OX O1 O2 g)) {pins : List (Addr × Obj)} {s : Shared} {σ : L2.St} {F H : Hp} {r : Ev} {Q : VK} (I : Inv X pins σ H s) (S : Sta G O F H σ r)
    (p : Pst G W OX O O2 σ F H (RD G) Q ((f r).bind fun x r1 => (g r1).bind fun y r2 => k x y r2)) {α : Type} {Q' : α → Shared → Prop} {h : Value → Value → Sem α}
    (hf : ∀ (x y : D) (v w : V) (u u' : Value) (s2 : Shared) (F2 H2 : Hp) (r2 : Ev), Inv X pins σ H2 s2 → Sta G O2 F2 H2 σ r2 → Rep G F2 x v → Rep G F2 y w → RelV v u → RelV w u' → Pst G W OX O2 O2 σ F2 H2 (RD G) Q (k x y r2) → wpAny (model X.prog X.w) X.A (h u u') Q' X.xe s2) :
    wpAny (model X.prog X.w) X.A (eval a X.env) (fun v s₁ => wpAny (model X.prog X.w) X.A (eval b X.env) (fun u s₂ => wpAny (model X.prog X.w) X.A (h v u) Q' X.xe s₂) X.xe s₁) X.xe s := by
  refine thn (ha.run pins s σ H (fun v H1 => ∃ x, tE G W OX O1 O2 g σ H1 fun w H2 => ∃ F2 r2 y, Sta G O2 F2 H2 σ r2 ∧ Rep G F2 x v ∧ Rep G F2 y w ∧ Pst G W OX O2 O2 σ F2 H2 (RD G) Q (k x y r2)) I
    (tX_bind S p fun x v F1 H1 r1 n1 rx p => ⟨x, tX_bind n1.sta p fun y w F2 H2 r2 n2 ry p => ⟨F2, r2, y, n2.sta, rx.mono n2.stp.fz, ry, p⟩⟩)) fun u s1 ⟨v, H1, I1, ru, x, q1⟩ => ?_
  refine thn (hb.run pins s1 σ H1 _ I1 q1) fun u' s2 ⟨w, H2, I2, ru', F2, r2, y, S2, rx, ry, p⟩ => ?_
  exact hf x y v w u u' s2 F2 H2 r2 I2 S2 rx ry ru ru' p
theorem e_bin {op : Operator} {a b : Expr} {pos : Pos} {o : D → D → Ev → Out D} {f g : M D} (ho : Op2 G X W OX O2 (binaryOp op) o) (ha : PE X a (tE G W OX O O1 f)) (hb : PE X b (tE G W OX O1 O2 g)) : PE X (.BinOp a op b pos) (tE G W OX O O2 (eB o f g)) :=
  ⟨fun pins s σ H Q I ⟨F, r, S, p⟩ => wpAny_BinOp (two ha hb I S p fun x y v w u u' s2 F2 H2 r2 I2 S2 rx ry ru ru' p => ho pins s2 σ F2 H2 r2 x y v w u u' Q I2 S2 rx ry ru ru' p)⟩
theorem e_cmp {op : CmpOp} {a b : Expr} {pos : Pos} {o : D → D → Ev → Out D} {f g : M D} (ho : Op2 G X W OX O2 (compareOp op) o) (ha : PE X a (tE G W OX O O1 f)) (hb : PE X b (tE G W OX O1 O2 g)) (hm : behindInMarks op b = false := by first | exact nomark _ | rfl) :
    PE X (.Compare a [op] [b] pos) (tE G W OX O O2 (eB o f g)) :=
  ⟨fun pins s σ H Q I ⟨F, r, S, p⟩ => wpAny_Compare1 (two ha hb I S p fun x y v w u u' s2 F2 H2 r2 I2 S2 rx ry ru ru' p => ho pins s2 σ F2 H2 r2 x y v w u u' Q I2 S2 rx ry ru ru' p) hm⟩
theorem e_un {op : UnaryOp} {a : Expr} {pos : Pos} {o : D → Ev → Out D} {f : M D} (ho : Op1 G X W OX O1 (unaryOp op) o) (ha : PE X a (tE G W OX O O1 f)) : PE X (.UnaryOp op a pos) (tE G W OX O O1 (eU o f)) := by
  refine ⟨fun pins s σ H Q I ⟨F, r, S, p⟩ => ?_⟩
  refine UnaryOp_ (thn (ha.run pins s σ H (fun v H1 => ∃ F1 r1 x, Sta G O1 F1 H1 σ r1 ∧ Rep G F1 x v ∧ Pst G W OX O1 O1 σ F1 H1 (RD G) Q (o x r1)) I (tX_bind S p fun x v F1 H1 r1 n1 rx p => ⟨F1, r1, x, n1.sta, rx, p⟩)) fun u s1 ⟨v, H1, I1, ru, F1, r1, x, S1, rx, p⟩ => ?_)
  exact ho pins s1 σ F1 H1 r1 x v u Q I1 S1 rx ru p
/-- a op b op' c -/
theorem e_chain {op op' : CmpOp} {a b c : Expr} {pos : Pos} {o o' : D → D → Ev → Out D} {f g h : M D} (ho : Op2 G X W OX O (compareOp op) o) (ho' : Op2 G X W OX O (compareOp op') o') (ha : PE X a (tE G W OX O O f)) (hb : PE X b (tE G W OX O O g))
    (hc : PE X c (tE G W OX O O h)) (hm : lastMarks [op, op'] [b, c] = false := by with_unfolding_all rfl) : PE X (.Compare a [op, op'] [b, c] pos) (tE G W OX O O (eChain o o' f g h)) := by
  refine ⟨fun pins s σ H Q I ⟨F, r, S, p⟩ => ?_⟩
  refine Compare_chain (thn (ha.run pins s σ H (fun v H1 => ∃ x, tE G W OX O O g σ H1 fun w H2 => ∃ F2 r2 y, Sta G O F2 H2 σ r2 ∧ Rep G F2 x v ∧ Rep G F2 y w ∧ Pst G W OX O O σ F2 H2 (RD G) Q
      ((o x y r2).bind fun z r3 => onBl z fun b => if b then (h r3).bind fun w r4 => o' y w r4 else .ok (.bl false) r3)) I
    (tX_bind S p fun x v F1 H1 r1 n1 rx p => ⟨x, tX_bind n1.sta p fun y w F2 H2 r2 n2 ry p => ⟨F2, r2, y, n2.sta, rx.mono n2.stp.fz, ry, p⟩⟩)) fun u s1 ⟨v, H1, I1, ru, x, q1⟩ =>
    chain_link (thn (hb.run pins s1 σ H1 _ I1 q1) fun u' s2 ⟨w, H2, I2, ru', F2, r2, y, S2, rx, ry, p⟩ => ?_)) hm
  refine thn (ho pins s2 σ F2 H2 r2 _ y v w u u' _ I2 S2 rx ry ru ru' (Pst.bind (Rl := RD G) (O1 := O) p)) fun d s3 ⟨v3, H3, I3, r3', z, F3, r3, n3, rz, p⟩ => ?_
  cases rz with
  | @bl b =>
    cases r3'
    refine wpAny_truthy_bool ?_
    cases b with
    | false => exact ite_ff ⟨.bl false, H3, I3, rfl, p.ok n3.sta .bl⟩
    | true =>
      refine ite_tt (chain_last (thn (hc.run pins s3 σ H3 (fun w' H4 => ∃ F4 r4 z', Sta G O F4 H4 σ r4 ∧ Sub F3 F4 ∧ Rep G F4 z' w' ∧ Pst G W OX O O σ F4 H4 (RD G) Q (o' y z' r4)) I3
        (tX_bind n3.sta p fun z' w' F4 H4 r4 n4 rz p => ⟨F4, r4, z', n4.sta, n4.stp.fz, rz, p⟩)) fun u'' s4 ⟨w', H4, I4, r4', F4, r4, z', S4, sb4, rz, p⟩ => ?_))
      exact ho' pins s4 σ F4 H4 r4 y z' w w' u' u'' Q I4 S4 (ry.mono (n3.stp.fz.trans sb4)) rz ru' r4' p
  | _ => exact p.elim
end
end Z

/-! Defs: what a def does to trees (Beh), its promise, calls. -/
namespace Z
open PySem PySem.Spec PyProof.Rows L2

/-- what a def does: from its arguments to its value; behind it the owned arguments as they are then -/
abbrev Beh := List D → Out D
def keepE (io : List Nat) (n : Nat) (r : Ev) : Ev := (List.range n).map fun i => if io.contains i then r.getD i none else none
inductive Fl where
  | nx | rt (d : D) | bk | ct
/-- a def by its body: n parameters, m slots -/
def mkB (n m : Nat) (io : List Nat) (body : M Fl) : Beh := fun ds => if ds.length = n then (match body (ds.map some ++ List.replicate (m - n) none) with
  | .ok .nx r => .ok .non (keepE io n r)
  | .ok (.rt d) r => .ok d (keepE io n r)
  | .ok _ _ => .no
  | .ex e r => .ex e (keepE io n r)
  | .no => .no) else .no
/-- the promise -/
def spB (G : Gm) (n : Nat) (io : List Nat) (B : Beh) : Sp := fun vs H Q E => vs.length = n ∧ ∃ F ds, Sta G io F H (vs.map some) (ds.map some) ∧
  Pst G (fun c dx _ H' => E c dx H') io io io (vs.map some) F H (RD G) Q (B ds)
abbrev FnB (P : Program) (w : World) (G : Gm) (mg : Str → Option Value) (base : Heap) (k : Nat) (f : Addr) (fd : FuncData) (ps : List Str) (n : Nat) (io : List Nat) (B : Beh) : Prop := FnOk P w G.K mg base (L2.CX P w) k f fd ps (spB G n io B)

/-- a call of a def that changes none of its arguments -/
@[simp] def out0 (o : Out D) (r : Ev) : Out D := match o with
  | .ok d _ => .ok d r
  | .ex e _ => .ex e r
  | .no => .no
/-- .. of one that changes its first argument, the caller's slot i -/
@[simp] def out1 (o : Out D) (i : Nat) (r : Ev) : Out D := match o with
  | .ok d q => .ok d (r.set i (q.getD 0 none))
  | .ex e q => .ex e (r.set i (q.getD 0 none))
  | .no => .no
@[simp] def eC (B : Beh) (f : M (List D)) : M D := fun r => (f r).bind fun ds r1 => out0 (B ds) r1
@[simp] def eC1 (B : Beh) (i : Nat) (f : M (List D)) : M D := fun r => (f r).bind fun ds r1 => match r1[i]? with
  | some (some d0) => out1 (B (d0 :: ds)) i r1
  | _ => .no

section
variable {G : Gm} {X : Cx} {W : WX} {OX O O1 O2 O3 : List Nat}
theorem Sta.args {F H : Hp} {ds : List D} {vs : List V} (sb : Sub F H) (wf : Wf G H) (h : RepL G F ds vs) : Sta G [] F H (vs.map some) (ds.map some) where
  sub := sb
  wf := wf
  len := by rw [List.length_map, List.length_map, h.length]
  rp := fun i d _ e => by
    rw [List.getElem?_map] at e
    cases q : ds[i]? with
    | none => rw [q] at e; cases e
    | some d' =>
      rw [q] at e
      cases e
      obtain ⟨v, e1, h1⟩ := h.get q
      exact ⟨v, by rw [List.getElem?_map, e1]; rfl, h1⟩
  ow := fun i hi => by cases hi
  dj := fun i j a hi => by cases hi
theorem notOwn_nil {σ : L2.St} {a : Addr} : ¬ OwnAt [] σ a := fun ⟨_, h, _⟩ => by cases h
/-- what a caller may ask of a def that changes none of its arguments -/
theorem spB_of {σ : L2.St} {F H : Hp} {r : Ev} {ds : List D} {vs : List V} {n : Nat} {B : Beh} {Q : VK} (hx : ∀ i ∈ OX, i ∈ O) (S : Sta G O F H σ r) (h : RepL G F ds vs) (hn : vs.length = n) (p : Pst G W OX O O σ F H (RD G) Q (out0 (B ds) r)) :
    spB G n [] B vs H Q (fun c dx H' => W c dx σ H') := by
  refine ⟨hn, F, ds, Sta.args S.sub S.wf h, ?_⟩
  have stay : ∀ {F' H' : Hp} {r' : Ev}, Nx G [] [] [] (vs.map some) F H (vs.map some) F' H' r' → Nx G OX O O σ F H σ F' H' r := fun {F' H' r'} n =>
    Nx.of (S.stay (n.stp.weak (Mo1 := fun _ => False) fun x z => absurd z notOwn_nil) n.sta.sub n.sta.wf fun _ _ z => z) (n.stp.weak fun x z => absurd z notOwn_nil) fun _ h => h
  revert p
  cases B ds with
  | no => exact fun p => p
  | ok d q => exact fun p v F' H' n rd => p v F' H' (stay n) rd
  | ex e q => exact fun p c dx F' H' n x => let ⟨F2, n2, sb⟩ := (stay n).freeze hx; p c dx F2 H' n2 (x.mono sb)
/-- .. that changes its first argument -/
theorem spB_of1 {σ : L2.St} {F H : Hp} {r : Ev} {ds : List D} {vs : List V} {d0 : D} {v0 : V} {i n : Nat} {B : Beh} {Q : VK} (hx : ∀ i ∈ OX, i ∈ O) (S : Sta G O F H σ r) (hi : i ∈ O) (hd : r[i]? = some (some d0)) (hv : σ[i]? = some (some v0))
    (h : RepL G F ds vs) (hn : (v0 :: vs).length = n) (p : Pst G W OX O O σ F H (RD G) Q (out1 (B (d0 :: ds)) i r)) : spB G n [0] B (v0 :: vs) H Q (fun c dx H' => W c dx σ H') := by
  obtain ⟨v0', e0, ow⟩ := S.own_at hi hd
  rw [hv] at e0
  cases e0
  have SA : Sta G [0] F H ((v0 :: vs).map some) ((d0 :: ds).map some) := by
    have A := Sta.args S.sub S.wf h
    refine ⟨S.sub, S.wf, by simp [h.length], fun j d hj e => ?_, fun j hj => ?_, fun j k a hj hk _ _ => ?_⟩
    · cases j with
      | zero => exact absurd (List.mem_singleton.mpr rfl) hj
      | succ j => exact A.rp j d (by simp) (by simpa using e)
    · rw [List.mem_singleton.mp hj]
      exact ⟨d0, v0, rfl, rfl, ow⟩
    · rw [List.mem_singleton.mp hj, List.mem_singleton.mp hk]
  refine ⟨hn, F, d0 :: ds, SA, ?_⟩
  have mo : ∀ x, OwnAt [0] ((v0 :: vs).map some) x → v0 = .ref x ∧ OwnAt O σ x := fun x ⟨j, hj, e⟩ => by
    rw [List.mem_singleton.mp hj] at e
    have e' : v0 = .ref x := by simpa using e
    exact ⟨e', i, hi, by rw [hv, e']⟩
  have stay : ∀ {F' H' : Hp} {r' : Ev}, Nx G [0] [0] [0] ((v0 :: vs).map some) F H ((v0 :: vs).map some) F' H' r' → Nx G OX O O σ F H σ F' H' (r.set i (r'.getD 0 none)) := fun {F' H' r'} n => by
    obtain ⟨d', v', e1, e2, ow'⟩ := n.sta.ow 0 (by simp)
    have ev : v0 = v' := by simpa using e2
    subst ev
    have er : r'.getD 0 none = some d' := by
      rw [List.getD_eq_getElem?_getD, e1] <;> rfl
    rw [er]
    refine Nx.of ⟨n.sta.sub, n.sta.wf, by simp [S.len], fun j d hj e => ?_, fun j hj => ?_, S.dj⟩ (n.stp.weak fun x m => (mo x m).2) fun _ h => h
    · have q : i ≠ j := fun z => hj (z ▸ hi)
      rw [List.getElem?_set_ne q] at e
      obtain ⟨v, e', rp⟩ := S.rp j d hj e
      exact ⟨v, e', rp.mono n.stp.fz⟩
    · by_cases q : i = j
      · subst q
        have hl : i < r.length := (List.getElem?_eq_some_iff.mp hd).1
        exact ⟨d', v0, List.getElem?_set_self hl, hv, ow'⟩
      · obtain ⟨dj, vj, e1j, e2j, oj⟩ := S.ow j hj
        refine ⟨dj, vj, by rw [List.getElem?_set_ne q]; exact e1j, e2j, oj.mono n.stp fun a ea m => ?_⟩
        exact q (S.dj i j a hi hj (by rw [hv, (mo a m).1]) (by rw [e2j, ea]))
  revert p
  cases B (d0 :: ds) with
  | no => exact fun p => p
  | ok d q => exact fun p v F' H' n rd => p v F' H' (stay n) rd
  | ex e q => exact fun p c dx F' H' n x => let ⟨F2, n2, sb⟩ := (stay n).freeze hx; p c dx F2 H' n2 (x.mono sb)

/-- a def by its body's behaviour -/
theorem fnB {P : Program} {w : World} {mg : Str → Option Value} {base : Heap} {x qual : Str} {params : Arguments} {body : List Stmt} {scope : Scope} {dvs : List V} {kws : List (Str × V)} {f : Addr} {fd : FuncData} {N ps : List Str} {k : Nat} {n m : Nat} {io : List Nat} {b : M Fl}
    (F : FunD G.K x qual params body scope dvs kws f fd) (S : FnScope N ps scope) (hn : ps.length = n) (hm : N.length = m)
    (hb : ∀ (cdv : Value) (A : Around) (outer : List PySem.Env) (s : Shared) (H : Hp) (E : XK), Room k (A.deeper (envOfC qual scope s.heap.objs.size f cdv)) →
      ∃ t, PSs (cxOf (L2.CX P w) P w G.K mg base N qual scope f cdv A outer s H E) body t ∧ ∀ (F : Hp) (σ : L2.St) (r : Ev) (Q : VK), Sta G io F H σ r → (∀ i ∈ io, i < n) → n ≤ m → σ.length = m →
        Pst G (fun c dx _ H' => E c dx H') io io io (σ.take n) F H (RD G) Q (match b r with
          | .ok .nx r => .ok .non (keepE io n r)
          | .ok (.rt d) r => .ok d (keepE io n r)
          | .ok _ _ => .no
          | .ex e r => .ex e (keepE io n r)
          | .no => .no) → t { nx := fun _ H' => Q .non H', rt := Q } σ H) (hio : ∀ i ∈ io, i < n) : FnB P w G mg base (k + 1) f fd ps n io (mkB n m io b) := by
  refine F.ok S (fun vs H Q E h => h.1.trans hn.symm) (fun cdv A outer s H vs Q E hr h => ?_)
  obtain ⟨hl, F0, ds, St, p⟩ := h
  obtain ⟨t, ht, hq⟩ := hb cdv A outer s H E hr
  refine ⟨t, ht, ?_⟩
  have hds : ds.length = n := by
    have := St.len
    rw [List.length_map, List.length_map] at this
    omega
  have hnm : n ≤ m := by
    have h1 := congrArg List.length S.pre
    rw [List.length_take] at h1
    omega
  unfold mkB at p
  rw [if_pos hds] at p
  have hst : L2.start N vs = vs.map some ++ List.replicate (m - n) none := by
    unfold L2.start
    rw [hm, hl]
  refine hq F0 (L2.start N vs) (ds.map some ++ List.replicate (m - n) none) Q ?_ hio hnm (by rw [hst]; simp; omega) ?_
  · rw [hst]
    have nn : ∀ (j : Nat), n ≤ j → ∀ x : D, (ds.map some ++ List.replicate (m - n) (none : Option D))[j]? ≠ some (some x) := fun j hj x e => by
      rw [List.getElem?_append_right (by simp; omega)] at e
      have := List.mem_of_getElem? e
      rw [List.mem_replicate] at this
      cases this.2
    refine ⟨St.sub, St.wf, by simp [hds, hl], fun i d hi e => ?_, fun i hi => ?_, fun i j a hi hj ei ej => ?_⟩
    · have hlt : i < n := Nat.lt_of_not_le fun z => nn i z d e
      rw [List.getElem?_append_left (by simp; omega)] at e ⊢
      exact St.rp i d hi e
    · have hlt := hio i hi
      rw [List.getElem?_append_left (by simp; omega), List.getElem?_append_left (by simp; omega)]
      exact St.ow i hi
    · rw [List.getElem?_append_left (by have := hio i hi; simp; omega)] at ei
      rw [List.getElem?_append_left (by have := hio j hj; simp; omega)] at ej
      exact St.dj i j a hi hj ei ej
  · rw [hst, List.take_left' (by simp [hl])]
    exact p
end
end Z

/-! Statements. -/
namespace Z
open PySem PySem.Spec PyProof.Rows L2

def PstS (G : Gm) (W : WX) (OX OL O O' : List Nat) (σ : L2.St) (F H : Hp) (Dn : Ends) : Out Fl → Prop
  | .ok .nx r' => ∀ σ' F' H', Nx G OX O O' σ F H σ' F' H' r' → Dn.nx σ' H'
  | .ok (.rt d) r' => ∀ v σ' F' H', Nx G OX O OX σ F H σ' F' H' r' → Rep G F' d v → Dn.rt v H'
  | .ok .bk r' => ∀ σ' F' H', Nx G OX O OL σ F H σ' F' H' r' → Dn.bk σ' H'
  | .ok .ct r' => ∀ σ' F' H', Nx G OX O OL σ F H σ' F' H' r' → Dn.ct σ' H'
  | .ex e r' => ∀ c dx σ' F' H', Nx G OX O OX σ F H σ' F' H' r' → XRep G F' e c dx → W c dx σ' H'
  | .no => False
def tS (G : Gm) (W : WX) (OX OL O O' : List Nat) (f : M Fl) : TS := fun Dn σ H => ∃ F r, Sta G O F H σ r ∧ PstS G W OX OL O O' σ F H Dn (f r)

@[simp] def sNil : M Fl := fun r => .ok .nx r
@[simp] def sSeq (f g : M Fl) : M Fl := fun r => match f r with
  | .ok .nx r1 => g r1
  | .ok c r1 => .ok c r1
  | .ex e r1 => .ex e r1
  | .no => .no
@[simp] def sAs (i : Nat) (f : M D) : M Fl := fun r => (f r).bind fun d r1 => .ok .nx (r1.set i (some d))
@[simp] def sRet (f : M D) : M Fl := fun r => (f r).bind fun d r1 => .ok (.rt d) r1
@[simp] def sRetN : M Fl := fun r => .ok (.rt .non) r
@[simp] def sEx (f : M D) : M Fl := fun r => (f r).bind fun _ r1 => .ok .nx r1
@[simp] def sIf (t : M Bool) (f g : M Fl) : M Fl := fun r => (t r).bind fun b r1 => if b then f r1 else g r1
@[simp] def sBk : M Fl := fun r => .ok .bk r
@[simp] def sCt : M Fl := fun r => .ok .ct r
/-- code that is never come to -/
@[simp] def sNo : M Fl := fun _ => .no

section
variable {G : Gm} {X : Cx} {W : WX} {OX OL O O1 O2 O3 : List Nat}
theorem PstS.after {σ σ1 : L2.St} {F H F1 H1 : Hp} {r1 : Ev} {Dn : Ends} {o : Out Fl} (n1 : Nx G OX O O1 σ F H σ1 F1 H1 r1) (p : PstS G W OX OL O O2 σ F H Dn o) : PstS G W OX OL O1 O2 σ1 F1 H1 Dn o := by
  revert p
  cases o with
  | no => exact fun p => p
  | ex e r' => exact fun p c dx σ' F' H' n x => p c dx σ' F' H' (n1.trans n) x
  | ok a r' =>
    cases a with
    | nx => exact fun p σ' F' H' n => p σ' F' H' (n1.trans n)
    | rt d => exact fun p v σ' F' H' n x => p v σ' F' H' (n1.trans n) x
    | bk => exact fun p σ' F' H' n => p σ' F' H' (n1.trans n)
    | ct => exact fun p σ' F' H' n => p σ' F' H' (n1.trans n)
/-- an expression, then a statement -/
theorem tS_bind {α β : Type} {σ : L2.St} {F H : Hp} {r : Ev} {Rl : Hp → Hp → α → β → Prop} {f : M α} {k : α → M Fl} {Q : β → Hp → Prop} {Dn : Ends} (S : Sta G O F H σ r) (p : PstS G W OX OL O O2 σ F H Dn ((f r).bind k))
    (hk : ∀ (a : α) (b : β) (F1 H1 : Hp) (r1 : Ev), Nx G OX O O1 σ F H σ F1 H1 r1 → Rl F1 H1 a b → PstS G W OX OL O1 O2 σ F1 H1 Dn (k a r1) → Q b H1) : tX G W OX O O1 Rl f σ H Q := by
  refine ⟨F, r, S, ?_⟩
  revert p
  cases f r with
  | no => exact fun p => p
  | ex e r' => exact fun p c dx F' H' n x => p c dx σ F' H' n x
  | ok a r1 => exact fun p b F1 H1 n1 rl => hk a b F1 H1 r1 n1 rl (PstS.after n1 p)
theorem s_nil : PSs X [] (tS G W OX OL O O sNil) := pss_nil.imp fun Dn σ H ⟨F, r, S, p⟩ => p σ F H (Nx.rfl' S)
theorem PSeq {st : List Stmt} {f g : M Fl} {Dn : Ends} {σ : L2.St} {H : Hp} (h : tS G W OX OL O O2 (sSeq f g) Dn σ H) : tS G W OX OL O O1 f { Dn with nx := fun σ' H' => tS G W OX OL O1 O2 g Dn σ' H' } σ H := by
  obtain ⟨F, r, S, p⟩ := h
  refine ⟨F, r, S, ?_⟩
  simp only [sSeq] at p
  revert p
  cases f r with
  | no => exact fun p => p
  | ex e r' => exact fun p => p
  | ok a r1 =>
    cases a with
    | nx => exact fun p σ' F' H' n => ⟨F', r1, n.sta, PstS.after n p⟩
    | rt d => exact fun p => p
    | bk => exact fun p => p
    | ct => exact fun p => p
theorem s_cons {st : Stmt} {rest : List Stmt} {f g : M Fl} (h1 : PS X st (tS G W OX OL O O1 f)) (h2 : PSs X rest (tS G W OX OL O1 O2 g)) : PSs X (st :: rest) (tS G W OX OL O O2 (sSeq f g)) :=
  (pss_cons h1 h2).imp fun Dn σ H h => PSeq (st := rest) h
theorem s_one {st : Stmt} {f : M Fl} (h1 : PS X st (tS G W OX OL O O1 f)) : PSs X [st] (tS G W OX OL O O1 f) := pss_one h1
/-- any statement that is never come to -/
theorem s_no {st : Stmt} : PS X st (tS G W OX OL O O1 sNo) := ps_never.imp fun Dn σ H ⟨F, r, S, p⟩ => p
theorem ss_no {st : List Stmt} : PSs X st (tS G W OX OL O O1 sNo) := pss_never.imp fun Dn σ H ⟨F, r, S, p⟩ => p
theorem s_pass {pos} : PS X (.Pass pos) (tS G W OX OL O O sNil) := ps_pass.imp fun Dn σ H ⟨F, r, S, p⟩ => p σ F H (Nx.rfl' S)
theorem s_break {pos} (hl : ∀ i ∈ OL, i ∈ O := by decide) : PS X (.Break pos) (tS G W OX OL O O1 sBk) := ps_break.imp fun Dn σ H ⟨F, r, S, p⟩ => by
  obtain ⟨F2, n2, sb⟩ := (Nx.rfl' (OX := OX) S).freeze hl
  exact p σ F2 H n2
theorem s_continue {pos} (hl : ∀ i ∈ OL, i ∈ O := by decide) : PS X (.Continue pos) (tS G W OX OL O O1 sCt) := ps_continue.imp fun Dn σ H ⟨F, r, S, p⟩ => by
  obtain ⟨F2, n2, sb⟩ := (Nx.rfl' (OX := OX) S).freeze hl
  exact p σ F2 H n2
theorem s_set {x : Str} {e : Expr} {pos pos' : Pos} {f : M D} (i : Nat) (he : PE X e (tE G W OX O O1 f)) (hx : i ∉ OX := by decide) (hN : X.N.Nodup := by first | assumption | decide +kernel) (hi : X.N[i]? = some x := by rfl) (hl : Loc X.env.scope x := by first | exact Or.inl rfl | exact Or.inr rfl)
    (hs : swapsWith e (some (.Name x pos')) pos.line X.env = pure false := by rfl) (hf : X.fn x = true ∨ X.env.scope.names.lookup x = some .local := by first | exact .inl rfl | exact .inr rfl | assumption) :
    PS X (.Assign [.Name x pos'] e pos) (tS G W OX OL O (O1.filter (· != i)) (sAs i f)) :=
  (ps_set hN hi hl he hs hf).imp fun Dn σ H ⟨F, r, S, p⟩ => tS_bind S p fun d v F1 H1 r1 n1 rd p => by
    refine p _ F1 H1 ⟨n1.sta.set i rd, .rfl', fun j hj => ?_, fun a m => ?_⟩
    · exact List.getElem?_set_ne (fun z : i = j => hx (by rw [z]; exact hj))
    · obtain ⟨j, hj, e⟩ := m
      obtain ⟨h1, h2⟩ := List.mem_filter.mp hj
      have q : i ≠ j := fun z => by simp [z] at h2
      rw [List.getElem?_set_ne q] at e
      exact .inl ⟨j, h1, e⟩
theorem s_ret {e : Expr} {pos : Pos} {f : M D} (he : PE X e (tE G W OX O O1 f)) (hx : ∀ i ∈ OX, i ∈ O1 := by decide) : PS X (.Return (some e) pos) (tS G W OX OL O O2 (sRet f)) :=
  (ps_ret he).imp fun Dn σ H ⟨F, r, S, p⟩ => tS_bind S p fun d v F1 H1 r1 n1 rd p => by
    obtain ⟨F2, n2, sb⟩ := (Nx.rfl' (OX := OX) n1.sta).freeze hx
    exact p v σ F2 H1 n2 (rd.mono sb)
theorem s_retN {pos : Pos} (hx : ∀ i ∈ OX, i ∈ O := by decide) : PS X (.Return none pos) (tS G W OX OL O O2 sRetN) :=
  ps_retN.imp fun Dn σ H ⟨F, r, S, p⟩ => by
    obtain ⟨F2, n2, sb⟩ := (Nx.rfl' (OX := OX) S).freeze hx
    exact p .non σ F2 H n2 .non
theorem s_expr {e : Expr} {pos : Pos} {f : M D} (he : PE X e (tE G W OX O O1 f)) (hs : swapsWith e none pos.line X.env = pure false := by rfl) : PS X (.Expr e pos) (tS G W OX OL O O1 (sEx f)) :=
  (ps_expr he hs).imp fun Dn σ H ⟨F, r, S, p⟩ => tS_bind S p fun d v F1 H1 r1 n1 rd p => p σ F1 H1 (Nx.rfl' n1.sta)
theorem s_doc {x j pos pos'} : PS X (.Expr (.Constant (.str x) j pos) pos') (tS G W OX OL O O sNil) := ps_doc.imp fun Dn σ H ⟨F, r, S, p⟩ => p σ F H (Nx.rfl' S)
theorem s_if {c : Expr} {a b : List Stmt} {pos : Pos} {t : M Bool} {f g : M Fl} (hc : PT X c (tT G W OX O O1 t)) (ha : PSs X a (tS G W OX OL O1 O2 f)) (hb : PSs X b (tS G W OX OL O1 O2 g)) : PS X (.If c a b pos) (tS G W OX OL O O2 (sIf t f g)) :=
  (ps_if hc ha hb).imp fun Dn σ H ⟨F, r, S, p⟩ => tS_bind S p fun d v F1 H1 r1 n1 rd p => by
    subst rd
    cases d with
    | true => exact ⟨F1, r1, n1.sta, p⟩
    | false => exact ⟨F1, r1, n1.sta, p⟩

/-! ### a def -/
theorem Nx.cut {io : List Nat} {σ σ' : L2.St} {F H F' H' : Hp} {r' : Ev} {n : Nat} (h : Nx G io io io σ F H σ' F' H' r') (hio : ∀ i ∈ io, i < n) (hn : n ≤ σ.length) :
    Nx G io io io (σ.take n) F H (σ.take n) F' H' (keepE io n r') := by
  have at_ : ∀ i ∈ io, (σ.take n)[i]? = σ'[i]? := fun i hi => by rw [List.getElem?_take_of_lt (hio i hi), h.kp i hi]
  have kat : ∀ i, i < n → (keepE io n r')[i]? = some (if io.contains i then r'.getD i none else none) := fun i hi => by
    unfold keepE
    rw [List.getElem?_map, List.getElem?_range hi]
    rfl
  refine ⟨⟨h.sta.sub, h.sta.wf, by unfold keepE; simp; omega, fun i d hi e => ?_, fun i hi => ?_, fun i j a hi hj ei ej => ?_⟩, h.stp.weak fun x ⟨i, hi, e⟩ => ⟨i, hi, ?_⟩, fun _ _ => rfl, fun _ m => .inl m⟩
  · by_cases hlt : i < n
    · rw [kat i hlt] at e
      have hc : io.contains i = false := by simpa using hi
      rw [hc] at e
      cases e
    · rw [List.getElem?_eq_none (by unfold keepE; simp; omega)] at e
      cases e
  · obtain ⟨d, v, e1, e2, o⟩ := h.sta.ow i hi
    refine ⟨d, v, ?_, by rw [at_ i hi]; exact e2, o⟩
    rw [kat i (hio i hi), if_pos (by simpa using hi), List.getD_eq_getElem?_getD, e1]
    rfl
  · rw [at_ i hi] at ei
    rw [at_ j hj] at ej
    exact h.sta.dj i j a hi hj ei ej
  · rw [List.getElem?_take_of_lt (hio i hi)]
    exact e
theorem def_ok {P : Program} {w : World} {mg : Str → Option Value} {base : Heap} {x qual : Str} {params : Arguments} {body : List Stmt} {scope : Scope} {dvs : List V} {kws : List (Str × V)} {f : Addr} {fd : FuncData} {N ps : List Str} {k : Nat} {n m : Nat} {io : List Nat} {b : M Fl} {O' : List Nat}
    (F : FunD G.K x qual params body scope dvs kws f fd) (S : FnScope N ps scope) (hb : ∀ (cdv : Value) (A : Around) (outer : List PySem.Env) (s : Shared) (H : Hp) (E : XK), Room k (cxOf (L2.CX P w) P w G.K mg base N qual scope f cdv A outer s H E).A →
      Takes (cxOf (L2.CX P w) P w G.K mg base N qual scope f cdv A outer s H E) (fun cls d _ H => E cls d H) →
      PSs (cxOf (L2.CX P w) P w G.K mg base N qual scope f cdv A outer s H E) body (tS G (fun cls d _ H => E cls d H) io [] io O' b)) (hn : ps.length = n := by rfl) (hm : N.length = m := by rfl) (hio : ∀ i ∈ io, i < n := by decide) (hO : ∀ i ∈ io, i ∈ O' := by decide) :
    FnB P w G mg base (k + 1) f fd ps n io (mkB n m io b) := by
  refine fnB F S hn hm (fun cdv A outer s H E hr => ⟨_, hb cdv A outer s H E hr (takes_of rfl rfl rfl rfl), fun F0 σ r Q St _ hnm hl p => ⟨F0, r, St, ?_⟩⟩) hio
  have hnl : n ≤ σ.length := by omega
  revert p
  cases b r with
  | no => exact fun p => p
  | ex e r' => exact fun p c dx σ' F' H' n' x => p c dx F' H' (n'.cut hio hnl) x
  | ok a r' =>
    cases a with
    | nx =>
      intro p σ' F' H' n'
      obtain ⟨F2, n2, sb⟩ := n'.freeze hO
      exact p .non F2 H' (n2.cut hio hnl) .non
    | rt d => exact fun p v σ' F' H' n' rd => p v F' H' (n'.cut hio hnl) rd
    | bk => exact fun p => p.elim
    | ct => exact fun p => p.elim
end
end Z

/-! Operations on plain trees. -/
namespace Z
open PySem PySem.Spec PyProof.Rows L2

/-- less than n bits -/
def wd (n : Nat) (i : Int) : Bool := decide (i.natAbs.log2 < n)
theorem wd_of {n k : Nat} {i : Int} (h : i.natAbs < 2 ^ k) (h0 : 0 < k) (hk : k ≤ n) : wd n i = true := decide_eq_true (Nat.lt_of_lt_of_le (PySem.Flt.log2_lt_of h0 h) hk)
/-- a product that the machine makes -/
def mulB (i j : Int) : Bool := wd 60 i || wd 60 j || (wd 400000 i && wd 400000 j)
theorem mulB_ok {i j : Int} (h : mulB i j = true) : IntMulOk i j := by
  have b : ∀ x : Int, wd 60 x = true → Builtin.Int.intBits x ≤ 64 := fun x hx => by
    have := of_decide_eq_true hx
    unfold Builtin.Int.intBits
    split <;> omega
  unfold mulB at h
  simp only [Bool.or_eq_true, Bool.and_eq_true] at h
  rcases h with (h | h) | ⟨h1, h2⟩
  · exact .of_left (b i h)
  · exact .of_right (b j h)
  · have h1 := of_decide_eq_true h1
    have h2 := of_decide_eq_true h2
    exact CMulW.ok (by unfold CMulW; omega)
theorem op_mulZ {X : Cx} : OpR X (binaryOp .Mult) (rI (fun i j => mulB i j = true) fun i j => .int (i * j)) := opI fun _ _ _ _ _ _ _ hc q => mul_int q (mulB_ok hc)
def big : Nat := 16000000
theorem big_line {n : Nat} (h : n ≤ big) : n ≤ sizeLine := by rw [sizeLine_eq]; unfold big at h; omega

def pAdd : D → D → Option D
  | .int i, .int j => some (.int (i + j))
  | .str a, .str b => if a.length + b.length ≤ big then some (.str (a ++ b)) else none
  | .lst l, .lst m => if l.length + m.length ≤ big then some (.lst (l ++ m)) else none
  | .tup (x :: l), .tup m => if l.length + 1 + m.length ≤ big then some (.tup (x :: l ++ m)) else none
  | _, _ => none
def pSub : D → D → Option D
  | .int i, .int j => some (.int (i - j))
  | _, _ => none
def pMul : D → D → Option D
  | .int i, .int j => if mulB i j then some (.int (i * j)) else none
  | .lst l, .int k => if k ≤ big ∧ l.length * k.toNat ≤ big ∧ -big ≤ k then some (.lst (List.replicate k.toNat l).flatten) else none
  | _, _ => none
def pDiv : D → D → Option D
  | .int i, .int j => if wd 8000 j && !decide (j = 0) then some (.int (i.fdiv j)) else none
  | _, _ => none
def pMod : D → D → Option D
  | .int i, .int j => if j = 0 then none else some (.int (i.fmod j))
  | _, _ => none
def pPow : D → D → Option D
  | .int i, .int j => if 0 ≤ j ∧ j ≤ 1000000 ∧ i.natAbs < 2 ^ 64 then some (.int (i ^ j.toNat)) else none
  | _, _ => none
def pLt : D → D → Option D
  | .int i, .int j => some (.bl (decide (i < j)))
  | .str a, .str b => some (.bl (decide (a.cps.toList < b.cps.toList)))
  | _, _ => none
def pLe : D → D → Option D
  | .int i, .int j => some (.bl (decide (i ≤ j)))
  | _, _ => none
def pGt : D → D → Option D
  | .int i, .int j => some (.bl (decide (j < i)))
  | _, _ => none
def pGe : D → D → Option D
  | .int i, .int j => some (.bl (decide (j ≤ i)))
  | _, _ => none
def pNeg : D → Option D
  | .int i => some (.int (-i))
  | _ => none
mutual
/-- plain data: no dicts, no objects -/
def toP : D → Option PyData
  | .non => some .none
  | .bl b => some (.bool b)
  | .int i => some (.int i)
  | .str x => some (.str x)
  | .tup l => (toPs l).map .tuple
  | .lst l => (toPs l).map .list
  | .kl l => (toPs l).map .list
  | _ => none
def toPs : List D → Option (List PyData)
  | [] => some []
  | d :: l => (toP d).bind fun p => (toPs l).map fun ps => p :: ps
end
def pEqB (x y : D) : Option Bool := match toP x, toP y with
  | some d, some e => if SeqAt.shaped d && SeqAt.shaped e then some (PyData.eqv d e) else none
  | _, _ => none
def pEq (x y : D) : Option D := (pEqB x y).map .bl
def pNe (x y : D) : Option D := (pEqB x y).map fun b => .bl (!b)
/-- flat values as the layer has them -/
def toV : D → Option V
  | .non => some .non
  | .bl b => some (.bl b)
  | .int i => some (.int i)
  | .str x => some (.str x)
  | _ => none
def toVs : List D → Option (List V)
  | [] => some []
  | d :: l => (toV d).bind fun v => (toVs l).map fun vs => v :: vs
def itemsOf : D → Option (List D)
  | .lst l => some l
  | .tup l => some l
  | .kl l => some l
  | _ => none
def pInB (x y : D) : Option Bool := match x, y with
  | .str a, .str b => if a.cps.size = 1 then some (decide (a.cps.getD 0 0 ∈ b.cps.toList)) else none
  | x, y => (itemsOf y).bind fun l => (toVs l).bind fun vs => (toV x).map fun v => inV v vs
def pIn (x y : D) : Option D := (pInB x y).map .bl
def pNotIn (x y : D) : Option D := (pInB x y).map fun b => .bl (!b)
@[simp] def oP (p : D → D → Option D) : D → D → Ev → Out D := fun x y r => liftO (p x y) r
@[simp] def oU (p : D → Option D) : D → Ev → Out D := fun x r => liftO (p x) r
@[simp] def eN (p : List D → Option D) (f : M (List D)) : M D := fun r => (f r).bind fun ds r1 => liftO (p ds) r1

section
variable {G : Gm} {X : Cx} {W : WX} {OX OL O O1 O2 O3 : List Nat}
theorem Pst.fz {σ : L2.St} {F H : Hp} {r : Ev} {Q : VK} {d : D} {p : Addr} {ho : HO} (S : Sta G O F H σ r) (hp : H p = none) (hi : noIns ho = true) (hd : ∀ F', F' p = some ho → Sub F F' → Rep G F' d (.ref p)) (q : Pst G W OX O O σ F H (RD G) Q (.ok d r)) : Q (.ref p) (upd H p ho) := by
  obtain ⟨S', s'⟩ := new_fz (o := ho) S hp hi
  exact q _ _ _ (Nx.of S' s' fun _ h => h) (hd _ upd_same s'.fz)
/-- binary operators on plain trees -/
theorem opP {f : Value → Value → Sem Value} {p : D → D → Option D} {h : R2} (ho : OpR X f h)
    (hp : ∀ (σ : L2.St) (F H : Hp) (r : Ev) (x y d : D) (v w : V) (Q : VK), Sta G O F H σ r → Rep G F x v → Rep G F y w → p x y = some d → Pst G W OX O O σ F H (RD G) Q (.ok d r) → h v w H Q) : Op2 G X W OX O f (oP p) :=
  Op2.of ho fun σ F H r x y v w Q S rx ry q => by
    revert q
    unfold oP
    cases e : p x y with
    | none => exact fun q => q.elim
    | some d => exact fun q => hp σ F H r x y d v w Q S rx ry e q
theorem op1P {f : Value → Sem Value} {p : D → Option D} {h : V → Hp → VK → Prop} (ho : UnR X f h)
    (hp : ∀ (σ : L2.St) (F H : Hp) (r : Ev) (x d : D) (v : V) (Q : VK), Sta G O F H σ r → Rep G F x v → p x = some d → Pst G W OX O O σ F H (RD G) Q (.ok d r) → h v H Q) : Op1 G X W OX O f (oU p) :=
  Op1.of ho fun σ F H r x v Q S rx q => by
    revert q
    unfold oU
    cases e : p x with
    | none => exact fun q => q.elim
    | some d => exact fun q => hp σ F H r x d v Q S rx e q
theorem o_add (hK : X.K = G.K := by rfl) : Op2 G X W OX O (binaryOp .Add) (oP pAdd) :=
  opP (((op_add.or op_add_str).or op_cat).or op_catT) fun σ F H r x y d v w Q S rx ry e q => by
    unfold pAdd at e
    split at e
    · cases rx; cases ry; cases e
      exact .inl (.inl (.inl ⟨_, _, rfl, rfl, q.ok S .int⟩))
    · split at e
      · rename_i hz
        cases rx; cases ry; cases e
        exact .inl (.inl (.inr ⟨_, _, rfl, rfl, big_line hz, q.ok S .str⟩))
      · cases e
    · split at e
      · rename_i hz
        cases e
        cases rx with
        | lst h1 r1 =>
          cases ry with
          | lst h2 r2 =>
            obtain ⟨o1, e1, g1⟩ := S.sub _ _ h1
            obtain ⟨o2, e2, g2⟩ := S.sub _ _ h2
            rw [g1.lst] at e1
            rw [g2.lst] at e2
            refine .inl (.inr ⟨_, _, _, _, rfl, rfl, e1, e2, by rw [← r1.length, ← r2.length]; exact big_line hz, fun p hp => ?_⟩)
            exact q.fz S hp rfl fun F' hF sb => .lst hF ((r1.mono sb).app (r2.mono sb))
      · cases e
    · split at e
      · rename_i hz
        cases e
        cases rx with
        | tup h1 r1 =>
          cases ry with
          | @tup m b ys h2 r2 =>
            refine .inr ?_
            rw [hK]
            refine ⟨_, _, _, _, rfl, rfl, S.sub.sqT h1, S.sub.sqT h2, fun z => (by rw [z] at r1; cases r1), by rw [← r1.length, ← r2.length]; exact big_line hz, fun z => ?_, fun _ p hp => ?_⟩
            · subst z
              cases r2
              exact q.ok S (by rw [List.append_nil]; exact .tup h1 r1)
            · exact q.fz S hp rfl fun F' hF sb => .tup (.inl (.inl hF)) ((r1.mono sb).app (r2.mono sb))
      · cases e
    · cases e
theorem o_sub : Op2 G X W OX O (binaryOp .Sub) (oP pSub) :=
  opP op_sub fun σ F H r x y d v w Q S rx ry e q => by
    unfold pSub at e
    split at e
    · cases rx; cases ry; cases e
      exact ⟨_, _, rfl, rfl, q.ok S .int⟩
    · cases e
theorem RepL.rep {F : Hp} {l : List D} {xs : List V} (h : RepL G F l xs) : ∀ n : Nat, RepL G F (List.replicate n l).flatten (List.replicate n xs).flatten
  | 0 => .nil
  | n + 1 => by
    rw [List.replicate_succ, List.replicate_succ, List.flatten_cons, List.flatten_cons]
    exact h.app (RepL.rep h n)
theorem o_mul : Op2 G X W OX O (binaryOp .Mult) (oP pMul) :=
  opP (op_mulZ.or op_rep) fun σ F H r x y d v w Q S rx ry e q => by
    unfold pMul at e
    split at e
    · split at e
      · rename_i hw
        cases rx; cases ry; cases e
        exact .inl ⟨_, _, rfl, rfl, hw, q.ok S .int⟩
      · cases e
    · split at e
      · rename_i hz
        obtain ⟨z1, z2, z3⟩ := hz
        cases e
        cases rx with
        | lst h1 r1 =>
          cases ry
          obtain ⟨o1, e1, g1⟩ := S.sub _ _ h1
          rw [g1.lst] at e1
          refine .inr ⟨_, _, _, rfl, rfl, e1, by unfold big at z3; omega, by unfold big at z1; omega, by rw [← r1.length]; exact big_line z2, fun p hp => ?_⟩
          exact q.fz S hp rfl fun F' hF sb => .lst hF ((r1.mono sb).rep _)
      · cases e
    · cases e
theorem op_fdivZ : OpR X (binaryOp .FloorDiv) (rI (fun _ j => j ≠ 0 ∧ j.natAbs.log2 < 9000) fun i j => .int (i.fdiv j)) := opI fun _ _ _ _ _ _ _ hc q => floordiv_int hc.1 q (.inl (PyProof.noPylong_of_log2 hc.2))
theorem o_div : Op2 G X W OX O (binaryOp .FloorDiv) (oP pDiv) :=
  opP op_fdivZ fun σ F H r x y d v w Q S rx ry e q => by
    unfold pDiv at e
    split at e
    · split at e
      · rename_i hw
        cases rx; cases ry; cases e
        obtain ⟨h1, h2⟩ := Bool.and_eq_true_iff.mp hw
        have h1 := of_decide_eq_true h1
        exact ⟨_, _, rfl, rfl, ⟨by simpa using h2, by omega⟩, q.ok S .int⟩
      · cases e
    · cases e
theorem o_mod : Op2 G X W OX O (binaryOp .Mod) (oP pMod) :=
  opP op_modN fun σ F H r x y d v w Q S rx ry e q => by
    unfold pMod at e
    split at e
    · split at e
      · cases e
      · rename_i hw
        cases rx; cases ry; cases e
        exact ⟨_, _, rfl, rfl, hw, q.ok S .int⟩
    · cases e
theorem o_pow : Op2 G X W OX O (binaryOp .Pow) (oP pPow) :=
  opP op_pow fun σ F H r x y d v w Q S rx ry e q => by
    unfold pPow at e
    split at e
    · split at e
      · rename_i hw
        cases rx; cases ry; cases e
        exact ⟨_, _, rfl, rfl, hw, q.ok S .int⟩
      · cases e
    · cases e
theorem o_lt : Op2 G X W OX O (compareOp .Lt) (oP pLt) :=
  opP (op_lt.or op_lt_str) fun σ F H r x y d v w Q S rx ry e q => by
    unfold pLt at e
    split at e
    · cases rx; cases ry; cases e
      exact .inl ⟨_, _, rfl, rfl, q.ok S .bl⟩
    · cases rx; cases ry; cases e
      exact .inr ⟨_, _, rfl, rfl, q.ok S .bl⟩
    · cases e
theorem o_le : Op2 G X W OX O (compareOp .LtE) (oP pLe) :=
  opP op_le fun σ F H r x y d v w Q S rx ry e q => by
    unfold pLe at e
    split at e
    · cases rx; cases ry; cases e
      exact ⟨_, _, rfl, rfl, q.ok S .bl⟩
    · cases e
theorem o_gt : Op2 G X W OX O (compareOp .Gt) (oP pGt) :=
  opP op_gt fun σ F H r x y d v w Q S rx ry e q => by
    unfold pGt at e
    split at e
    · cases rx; cases ry; cases e
      exact ⟨_, _, rfl, rfl, q.ok S .bl⟩
    · cases e
theorem o_ge : Op2 G X W OX O (compareOp .GtE) (oP pGe) :=
  opP op_ge fun σ F H r x y d v w Q S rx ry e q => by
    unfold pGe at e
    split at e
    · cases rx; cases ry; cases e
      exact ⟨_, _, rfl, rfl, q.ok S .bl⟩
    · cases e
theorem o_neg : Op1 G X W OX O (unaryOp .USub) (oU pNeg) :=
  op1P un_neg fun σ F H r x d v Q S rx e q => by
    unfold pNeg at e
    split at e
    · cases rx; cases e
      exact ⟨_, rfl, q.ok S .int⟩
    · cases e
mutual
theorem Rep.dp {F H : Hp} (sb : Sub F H) : ∀ {x : D} {v : V} {d : PyData}, Rep G F x v → toP x = some d → Dp G.K H v d
  | _, _, _, .non, e => by cases e; exact .non
  | _, _, _, .bl, e => by cases e; exact .bl _
  | _, _, _, .int, e => by cases e; exact .int _
  | _, _, _, .str, e => by cases e; exact .str _
  | _, _, _, .tup h r, e => by
    rw [toP] at e
    obtain ⟨ds, e1, e2⟩ := Option.map_eq_some_iff.mp e
    subst e2
    exact .tup (sb.sqT h) (RepL.dp sb r e1)
  | _, _, _, .lst h r, e => by
    rw [toP] at e
    obtain ⟨ds, e1, e2⟩ := Option.map_eq_some_iff.mp e
    subst e2
    obtain ⟨o', e', g⟩ := sb _ _ h
    rw [g.lst] at e'
    exact .lst (.inl (.inl e')) (RepL.dp sb r e1)
  | _, _, _, .kl h r, e => by
    rw [toP] at e
    obtain ⟨ds, e1, e2⟩ := Option.map_eq_some_iff.mp e
    subst e2
    exact .lst (sb.sqL h) (RepL.dp sb r e1)
  | _, _, _, .dic _ _ _, e => by cases e
  | _, _, _, .ob _ _ _, e => by cases e
theorem RepL.dp {F H : Hp} (sb : Sub F H) : ∀ {l : List D} {vs : List V} {ds : List PyData}, RepL G F l vs → toPs l = some ds → DpAll G.K H vs ds
  | _, _, _, .nil, e => by cases e; exact .nil
  | _, _, _, .cons h t, e => by
    rw [toPs] at e
    obtain ⟨p, e1, e2⟩ := Option.bind_eq_some_iff.mp e
    obtain ⟨ps, e3, e4⟩ := Option.map_eq_some_iff.mp e2
    subst e4
    exact .cons (Rep.dp sb h e1) (RepL.dp sb t e3)
end
theorem pEqB_dp {F H : Hp} {x y : D} {v w : V} {b : Bool} (sb : Sub F H) (rx : Rep G F x v) (ry : Rep G F y w) (e : pEqB x y = some b) : ∃ d e, Dp G.K H v d ∧ Dp G.K H w e ∧ SeqAt.shaped d = true ∧ SeqAt.shaped e = true ∧ b = PyData.eqv d e := by
  unfold pEqB at e
  split at e
  · rename_i d1 d2 e1 e2
    split at e
    · rename_i hs
      cases e
      obtain ⟨h1, h2⟩ := Bool.and_eq_true_iff.mp hs
      exact ⟨d1, d2, rx.dp sb e1, ry.dp sb e2, h1, h2, rfl⟩
    · cases e
  · cases e
theorem o_eq {k : Nat} (hr : Room k X.A) (hK : X.K = G.K := by rfl) : Op2 G X W OX O (compareOp .Eq) (oP pEq) :=
  opP (op_eqD hr.units) fun σ F H r x y d v w Q S rx ry e q => by
    obtain ⟨b, e1, e2⟩ := Option.map_eq_some_iff.mp e
    subst e2
    obtain ⟨d1, d2, h1, h2, h3, h4, rfl⟩ := pEqB_dp S.sub rx ry e1
    rw [hK]
    exact ⟨d1, d2, h1, h2, h3, h4, q.ok S .bl⟩
theorem o_ne {k : Nat} (hr : Room k X.A) (hK : X.K = G.K := by rfl) : Op2 G X W OX O (compareOp .NotEq) (oP pNe) :=
  opP (op_neD hr.units) fun σ F H r x y d v w Q S rx ry e q => by
    obtain ⟨b, e1, e2⟩ := Option.map_eq_some_iff.mp e
    subst e2
    obtain ⟨d1, d2, h1, h2, h3, h4, rfl⟩ := pEqB_dp S.sub rx ry e1
    rw [hK]
    exact ⟨d1, d2, h1, h2, h3, h4, q.ok S .bl⟩
theorem Rep.flat {F : Hp} {x : D} {v u : V} (h : Rep G F x v) (e : toV x = some u) : u = v ∧ flatV v = true := by
  cases h <;> cases e <;> exact ⟨rfl, rfl⟩
theorem RepL.flat {F : Hp} : ∀ {l : List D} {vs us : List V}, RepL G F l vs → toVs l = some us → us = vs ∧ vs.all flatV = true
  | _, _, _, .nil, e => by cases e; exact ⟨rfl, rfl⟩
  | _, _, _, .cons h t, e => by
    rw [toVs] at e
    obtain ⟨p, e1, e2⟩ := Option.bind_eq_some_iff.mp e
    obtain ⟨ps, e3, e4⟩ := Option.map_eq_some_iff.mp e2
    subst e4
    obtain ⟨q1, q2⟩ := h.flat e1
    obtain ⟨q3, q4⟩ := t.flat e3
    subst q1 q3
    exact ⟨rfl, by rw [List.all_cons, q2, q4]; rfl⟩
theorem Rep.items {F H : Hp} {x : D} {v : V} {l : List D} (sb : Sub F H) (h : Rep G F x v) (e : itemsOf x = some l) : ∃ a xs, v = .ref a ∧ (SqL G.K H a xs ∨ SqT G.K H a xs) ∧ RepL G F l xs := by
  cases h with
  | tup h r => cases e; exact ⟨_, _, rfl, .inr (sb.sqT h), r⟩
  | lst h r =>
    cases e
    obtain ⟨o', e', g⟩ := sb _ _ h
    rw [g.lst] at e'
    exact ⟨_, _, rfl, .inl (.inl (.inl e')), r⟩
  | kl h r => cases e; exact ⟨_, _, rfl, .inl (sb.sqL h), r⟩
  | _ => cases e
theorem sign_of {a : Str} (h : a.cps.size = 1) : a = ⟨#[a.cps.getD 0 0]⟩ := by
  obtain ⟨⟨l⟩⟩ := a
  cases l with
  | nil => cases h
  | cons c t =>
    cases t with
    | nil => rfl
    | cons _ _ => simp at h
theorem pInB_sq {F H : Hp} {x y : D} {v w : V} {b : Bool} (sb : Sub F H) (rx : Rep G F x v) (ry : Rep G F y w) (e : pInB x y = some b) :
    (∃ c z, v = .str ⟨#[c]⟩ ∧ w = .str z ∧ b = decide (c ∈ z.cps.toList)) ∨ (∃ p xs, w = .ref p ∧ (SqL G.K H p xs ∨ SqT G.K H p xs) ∧ flatV v = true ∧ xs.all flatV = true ∧ b = inV v xs) := by
  unfold pInB at e
  split at e
  · split at e
    · rename_i h
      cases e
      cases rx
      cases ry
      exact .inl ⟨_, _, congrArg V.str (sign_of h), rfl, rfl⟩
    · cases e
  · obtain ⟨l, e1, e2⟩ := Option.bind_eq_some_iff.mp e
    obtain ⟨vs, e3, e4⟩ := Option.bind_eq_some_iff.mp e2
    obtain ⟨u, e5, e6⟩ := Option.map_eq_some_iff.mp e4
    obtain ⟨a, xs, rfl, hq, rl⟩ := ry.items sb e1
    obtain ⟨q1, q2⟩ := rl.flat e3
    obtain ⟨q3, q4⟩ := rx.flat e5
    subst q1 q3 e6
    exact .inr ⟨a, _, rfl, hq, q4, q2, rfl⟩
theorem o_in (hK : X.K = G.K := by rfl) : Op2 G X W OX O (compareOp .In) (oP pIn) :=
  opP (op_in_sign.or op_in_seq) fun σ F H r x y d v w Q S rx ry e q => by
    obtain ⟨b, e1, e2⟩ := Option.map_eq_some_iff.mp e
    subst e2
    rcases pInB_sq S.sub rx ry e1 with ⟨c, z, rfl, rfl, rfl⟩ | ⟨p, xs, rfl, h1, h2, h3, rfl⟩
    · exact .inl ⟨c, z, rfl, rfl, q.ok S .bl⟩
    · exact .inr ⟨p, xs, rfl, by rw [hK]; exact h1, h2, h3, q.ok S .bl⟩
theorem o_notIn (hK : X.K = G.K := by rfl) : Op2 G X W OX O (compareOp .NotIn) (oP pNotIn) :=
  opP (op_notIn_sign.or op_notIn_seq) fun σ F H r x y d v w Q S rx ry e q => by
    obtain ⟨b, e1, e2⟩ := Option.map_eq_some_iff.mp e
    subst e2
    rcases pInB_sq S.sub rx ry e1 with ⟨c, z, rfl, rfl, rfl⟩ | ⟨p, xs, rfl, h1, h2, h3, rfl⟩
    · exact .inl ⟨c, z, rfl, rfl, q.ok S .bl⟩
    · exact .inr ⟨p, xs, rfl, by rw [hK]; exact h1, h2, h3, q.ok S .bl⟩
end
end Z

/-! Displays, items, slices, attributes, calls, the text's own operators. -/
namespace Z
open PySem PySem.Spec PyProof.Rows L2

@[simp] def okLen (l : List D) : Bool := decide (l.length ≤ big)
@[simp] def pTup (l : List D) : Option D := if okLen l then some (.tup l) else none
@[simp] def pLst (l : List D) : Option D := if okLen l then some (.lst l) else none
def pIx : D → D → Option D
  | .tup l, .int i => atI l i
  | .lst l, .int i => atI l i
  | .kl l, .int i => atI l i
  | .str z, .int i => if z.length ≤ big then (atI z.cps.toList i).map fun c => .str ⟨#[c]⟩ else none
  | _, _ => none
def cutD (xs : List D) (lo hi : Option Int) : List D := (xs.drop (HT.sIx xs.length 0 lo)).take (HT.sIx xs.length xs.length hi - HT.sIx xs.length 0 lo)
def pSl (x : D) (lo hi : Option Int) : Option D := match x with
  | .lst l => some (.lst (cutD l lo hi))
  | .kl l => some (.lst (cutD l lo hi))
  | .tup l => if HT.sIx l.length 0 lo = 0 ∧ HT.sIx l.length l.length hi = l.length then none else some (.tup (cutD l lo hi))
  | _ => none
@[simp] def iNo : M (Option Int) := fun r => .ok none r
@[simp] def iSo (f : M D) : M (Option Int) := fun r => (f r).bind fun x r1 => match x with
  | .int i => .ok (some i) r1
  | _ => .no
@[simp] def eSl (f : M D) (lo hi : M (Option Int)) : M D := fun r => (f r).bind fun x r1 => (lo r1).bind fun l r2 => (hi r2).bind fun h r3 => liftO (pSl x l h) r3
/-- a field, by the class's place of it -/
@[simp] def eFl (tb : List (Nat × Nat)) (f : M D) : M D := fun r => (f r).bind fun x r1 => match x with
  | .ob c l => (match tb.lookup c with
    | some i => liftO l[i]? r1
    | none => .no)
  | _ => .no
/-- a property -/
@[simp] def okOut (o : Out D) (r : Ev) : Out D := match o with
  | .ok d _ => .ok d r
  | _ => .no
@[simp] def ePr (tb : List (Nat × Beh)) (f : M D) : M D := fun r => (f r).bind fun x r1 => match x with
  | .ob c l => (match tb.lookup c with
    | some B => okOut (B [.ob c l]) r1
    | none => .no)
  | _ => .no
/-- a new instance of a class whose instances never change behind __init__ -/
@[simp] def outN (o : Out D) (r : Ev) : Out D := match o with
  | .ok .non q => (match q[0]? with
    | some (some d) => .ok d r
    | _ => .no)
  | .ex e _ => .ex e r
  | _ => .no
@[simp] def eNw (c : Nat) (B : Beh) (f : M (List D)) : M D := fun r => (f r).bind fun ds r1 => outN (B (.ob c [] :: ds)) r1
@[simp] def eMt (tb : List (Nat × Beh)) (f : M D) (g : M (List D)) : M D := fun r => (f r).bind fun x r1 => (g r1).bind fun ds r2 => match x with
  | .ob c l => (match tb.lookup c with
    | some B => out0 (B (.ob c l :: ds)) r2
    | none => .no)
  | _ => .no
/-- a method of the text, by the left one's class; else a plain operation -/
def oC (tb : List (Nat × Beh)) (p : D → D → Option D) (x y : D) (r : Ev) : Out D := match x with
  | .ob c l => (match tb.lookup c with
    | some B => out0 (B [.ob c l, y]) r
    | none => .no)
  | _ => liftO (p x y) r
def oC1 (tb : List (Nat × Beh)) (p : D → Option D) (x : D) (r : Ev) : Out D := match x with
  | .ob c l => (match tb.lookup c with
    | some B => out0 (B [.ob c l]) r
    | none => .no)
  | _ => liftO (p x) r
@[simp] theorem oC_ob {tb p c l y r} : oC tb p (.ob c l) y r = (match tb.lookup c with | some B => out0 (B [.ob c l, y]) r | none => .no) := rfl
@[simp] theorem oC1_ob {tb p c l r} : oC1 tb p (.ob c l) r = (match tb.lookup c with | some B => out0 (B [.ob c l]) r | none => .no) := rfl
@[simp] theorem oC_int {tb p i y r} : oC tb p (.int i) y r = liftO (p (.int i) y) r := rfl
@[simp] theorem oC_str {tb p i y r} : oC tb p (.str i) y r = liftO (p (.str i) y) r := rfl
@[simp] theorem oC_bl {tb p i y r} : oC tb p (.bl i) y r = liftO (p (.bl i) y) r := rfl
@[simp] theorem oC_non {tb p y r} : oC tb p .non y r = liftO (p .non y) r := rfl
@[simp] theorem oC_lst {tb p i y r} : oC tb p (.lst i) y r = liftO (p (.lst i) y) r := rfl
@[simp] theorem oC_tup {tb p i y r} : oC tb p (.tup i) y r = liftO (p (.tup i) y) r := rfl
@[simp] theorem oC_dic {tb p i j y r} : oC tb p (.dic i j) y r = liftO (p (.dic i j) y) r := rfl
@[simp] theorem oC1_int {tb p i r} : oC1 tb p (.int i) r = liftO (p (.int i)) r := rfl

section
variable {G : Gm} {X : Cx} {W : WX} {OX OL O O1 O2 O3 : List Nat}
/-! ### displays -/
theorem Pst.lift {σ : L2.St} {F H : Hp} {r : Ev} {o : Option D} {Q : VK} (q : Pst G W OX O O σ F H (RD G) Q (liftO o r)) : ∃ d, o = some d ∧ Pst G W OX O O σ F H (RD G) Q (.ok d r) := by
  cases o with
  | none => exact q.elim
  | some d => exact ⟨d, rfl, q⟩
theorem e_tup {es : List Expr} {x1 pos} {f : M (List D)} (h : PA X es (tA G W OX O O1 f)) : PE X (.Tuple es x1 pos) (tE G W OX O O1 (eN pTup f)) :=
  (pe_tup h).imp fun σ H Q ⟨F, r, S, p⟩ => tX_bind S p fun ds vs F1 H1 r1 n1 rs p => by
    obtain ⟨d, e, q⟩ := p.lift
    unfold pTup at e
    by_cases hz : okLen ds = true
    · rw [if_pos hz] at e
      cases e
      refine ⟨big_line (by have := rs.length; have := of_decide_eq_true hz; omega), fun p hp => q.fz n1.sta hp rfl fun F' hF sb => .tup (.inl (.inl hF)) (rs.mono sb)⟩
    · rw [if_neg hz] at e
      cases e
theorem e_lst {es : List Expr} {pos} {f : M (List D)} (h : PA X es (tA G W OX O O1 f)) : PE X (.List es pos) (tE G W OX O O1 (eN pLst f)) :=
  (pe_lst h).imp fun σ H Q ⟨F, r, S, p⟩ => tX_bind S p fun ds vs F1 H1 r1 n1 rs p => by
    obtain ⟨d, e, q⟩ := p.lift
    unfold pLst at e
    by_cases hz : okLen ds = true
    · rw [if_pos hz] at e
      cases e
      refine ⟨big_line (by have := rs.length; have := of_decide_eq_true hz; omega), fun p hp => q.fz n1.sta hp rfl fun F' hF sb => .lst hF (rs.mono sb)⟩
    · rw [if_neg hz] at e
      cases e
/-! ### items -/
theorem RepL.atI {F : Hp} {l : List D} {xs : List V} {i : Int} {d : D} (h : RepL G F l xs) (e : atI l i = some d) : ∃ v, L2.atI xs i = some v ∧ Rep G F d v := by
  unfold L2.atI at e ⊢
  rw [← h.length]
  obtain ⟨j, e1, e2⟩ := Option.bind_eq_some_iff.mp e
  obtain ⟨v, e3, rv⟩ := h.get e2
  exact ⟨v, by rw [e1]; exact e3, rv⟩
theorem e_ix {a b : Expr} {pos : Pos} {f g : M D} (ha : PE X a (tE G W OX O O1 f)) (hb : PE X b (tE G W OX O1 O2 g)) (hs : PlainIx b := by intro _ _; rfl) (hK : X.K = G.K := by rfl) : PE X (.Subscript a b pos) (tE G W OX O O2 (eB (oP pIx) f g)) :=
  (pe_ix ix_seq ha hb hs).imp fun σ H Q ⟨F, r, S, p⟩ => tX_bind S p fun x v F1 H1 r1 n1 rx p => tX_bind n1.sta p fun y w F2 H2 r2 n2 ry p => by
    obtain ⟨d, e, q⟩ := p.lift
    have rx := rx.mono n2.stp.fz
    have sb := n2.sta.sub
    unfold pIx at e
    unfold rIx
    rw [hK]
    split at e
    · cases rx with
      | tup h r =>
        cases ry
        obtain ⟨u, e1, ru⟩ := r.atI e
        exact .inr (.inl ⟨_, _, _, u, rfl, rfl, sb.sqT h, e1, q.ok n2.sta ru⟩)
    · cases rx with
      | lst h r =>
        cases ry
        obtain ⟨u, e1, ru⟩ := r.atI e
        obtain ⟨o', e', g⟩ := sb _ _ h
        rw [g.lst] at e'
        exact .inl ⟨_, _, _, u, rfl, rfl, .inl (.inl e'), e1, q.ok n2.sta ru⟩
    · cases rx with
      | kl h r =>
        cases ry
        obtain ⟨u, e1, ru⟩ := r.atI e
        exact .inl ⟨_, _, _, u, rfl, rfl, sb.sqL h, e1, q.ok n2.sta ru⟩
    · split at e
      · rename_i hz
        cases rx
        cases ry
        obtain ⟨c, e1, e2⟩ := Option.map_eq_some_iff.mp e
        subst e2
        exact .inr (.inr ⟨_, _, c, rfl, rfl, big_line hz, e1, q.ok n2.sta .str⟩)
      · cases e
    · cases e
/-- an item of a list that this code owns: the list is looked at when the index is known -/
@[simp] def eIxO (i : Nat) (g : M D) : M D := fun r => (g r).bind fun y r1 => match r1[i]? with
  | some (some x) => liftO (pIx x y) r1
  | _ => .no
theorem e_ixO {x : Str} {b : Expr} {pos pos' : Pos} {g : M D} (i : Nat) (hb : PE X b (tE G W OX O O1 g)) (hi : i ∈ O1 := by decide) (hs : PlainIx b := by intro _ _; rfl) (hN : X.N[i]? = some x := by rfl)
    (hv : Vis X.env.scope x := by first | exact Or.inl rfl | exact Or.inr (Or.inl rfl) | exact Or.inr (Or.inr rfl)) (hO : i ∈ O := by decide) (hd : (x == ("__debug__" : Str)) = false := by decide) (hcd : (x == ("__classdict__" : Str)) = false := by decide) : PE X (.Subscript (.Name x pos') b pos) (tE G W OX O O1 (eIxO i g)) :=
  (pe_ix ix_list (pe_var hN hv hd hcd) hb hs).imp fun σ H Q ⟨F, r, S, p⟩ => by
    obtain ⟨d0, v0, e1, e2, o0⟩ := S.ow i hO
    refine ⟨v0, e2, tX_bind S p fun y w F1 H1 r1 n1 ry p => ?_⟩
    revert p
    split
    · rename_i x e
      intro p
      obtain ⟨d, e3, q⟩ := p.lift
      obtain ⟨v, e4, o⟩ := n1.sta.own_at hi e
      rw [e2] at e4
      cases e4
      cases o with
      | lst h hf r =>
        cases ry with
        | int =>
          obtain ⟨u, e5, ru⟩ := r.atI e3
          exact ⟨_, _, _, u, rfl, rfl, .inl (.inl h), e5, q.ok n1.sta ru⟩
        | _ => cases e3
      | _ => cases ry <;> cases e3
    · exact fun p => p.elim
/-! ### slices -/
abbrev tI (G : Gm) (W : WX) (OX O O' : List Nat) (f : M (Option Int)) : L2.St → Hp → (Option Int → Hp → Prop) → Prop := tX G W OX O O' (fun _ _ (a b : Option Int) => a = b) f
theorem _root_.L2.PO.imp {X : Cx} {e : Option Expr} {t t' : TO} (h : PO X e t) (i : ∀ σ H Q, t' σ H Q → t σ H Q) : PO X e t' := ⟨fun pins s σ H Q I q => h.run pins s σ H Q I (i σ H Q q)⟩
theorem i_no : PO X none (tI G W OX O O iNo) := po_none.imp fun σ H Q ⟨F, r, S, p⟩ => p none F H (Nx.rfl' S) rfl
theorem i_so {e : Expr} {f : M D} (h : PE X e (tE G W OX O O1 f)) : PO X (some e) (tI G W OX O O1 (iSo f)) :=
  (po_some h).imp fun σ H Q ⟨F, r, S, p⟩ => tX_bind S p fun x v F1 H1 r1 n1 rx p => by
    cases rx with
    | int => exact ⟨_, rfl, p _ F1 H1 (Nx.rfl' n1.sta) rfl⟩
    | _ => exact p.elim
theorem RepL.cut {F : Hp} {l : List D} {xs : List V} (h : RepL G F l xs) (lo hi : Option Int) : RepL G F (cutD l lo hi) (cutV xs lo hi) := by
  unfold cutD cutV
  rw [h.length]
  exact (h.drop _).take _
theorem e_sl {e : Expr} {lo hi : Option Expr} {p2 pos : Pos} {f : M D} {l h : M (Option Int)} (he : PE X e (tE G W OX O O1 f)) (hl : PO X lo (tI G W OX O1 O2 l)) (hh : PO X hi (tI G W OX O2 O3 h)) (hK : X.K = G.K := by rfl) :
    PE X (.Subscript e (.Slice lo hi none p2) pos) (tE G W OX O O3 (eSl f l h)) :=
  (pe_slice (sl_list.or sl_tup) he hl hh).imp fun σ H Q ⟨F, r, S, p⟩ => tX_bind S p fun x v F1 H1 r1 n1 rx p => tX_bind n1.sta p fun lo lo' F2 H2 r2 n2 el p => tX_bind n2.sta p fun hi hi' F3 H3 r3 n3 eh p => by
    subst el eh
    obtain ⟨d, e, q⟩ := p.lift
    have rx := rx.mono (n2.stp.fz.trans n3.stp.fz)
    have sb := n3.sta.sub
    unfold pSl at e
    unfold rSlL rSlT
    rw [hK]
    split at e
    · cases e
      cases rx with
      | lst h r =>
        obtain ⟨o', e', g⟩ := sb _ _ h
        rw [g.lst] at e'
        exact .inl ⟨_, _, rfl, .inl (.inl e'), fun p hp => q.fz n3.sta hp rfl fun F' hF sb' => .lst hF ((r.mono sb').cut _ _)⟩
    · cases e
      cases rx with
      | kl h r => exact .inl ⟨_, _, rfl, sb.sqL h, fun p hp => q.fz n3.sta hp rfl fun F' hF sb' => .lst hF ((r.mono sb').cut _ _)⟩
    · split at e
      · cases e
      · rename_i hw
        cases e
        cases rx with
        | tup h r => exact .inr ⟨_, _, rfl, sb.sqT h, by rw [← r.length]; exact hw, fun p hp => q.fz n3.sta hp rfl fun F' hF sb' => .tup (.inl (.inl hF)) ((r.mono sb').cut _ _)⟩
    · cases e
/-! ### attributes -/
/-- what is known of a class of the text -/
structure ClsOk (G : Gm) (c : Nat) : Prop where
  cl : Cls G.K (G.cA c)
  nd : (G.lay c).Nodup
  sub : ∀ f ∈ G.lay c, f ∈ G.flds
  na : ∀ f ∈ G.lay c, NoAttr G.K (G.cA c) f
  few : (G.lay c).length ≤ 900
theorem zip_lookup : ∀ {lay : List Str} {xs : List V} {i : Nat} {f : Str} {v : V} (more : List (Str × V)), lay.Nodup → lay[i]? = some f → xs[i]? = some v → (lay.zip xs ++ more).lookup f = some v
  | [], _, _, _, _, _, _, e, _ => by simp at e
  | _ :: _, [], _, _, _, _, _, _, e => by simp at e
  | a :: lay, x :: xs, 0, f, v, more, nd, e1, e2 => by
    simp at e1 e2
    subst e1 e2
    simp
  | a :: lay, x :: xs, i + 1, f, v, more, nd, e1, e2 => by
    have h1 : lay[i]? = some f := by simpa using e1
    have h2 : xs[i]? = some v := by simpa using e2
    have hne : f ≠ a := fun z => (List.nodup_cons.mp nd).1 (by rw [← z]; exact List.mem_of_getElem? h1)
    rw [List.zip_cons_cons, List.cons_append, List.lookup_cons, show (f == a) = false by simp [hne]]
    exact zip_lookup more (List.nodup_cons.mp nd).2 h1 h2
theorem Rep.field {F H : Hp} {c i : Nat} {l : List D} {v : V} {d : D} {f : Str} (sb : Sub F H) (h : Rep G F (.ob c l) v) (co : ClsOk G c) (hf : (G.lay c)[i]? = some f) (e : l[i]? = some d) :
    ∃ a dx fs u, v = .ref a ∧ H a = some (.ins (G.cA c) dx fs) ∧ fs.lookup f = some u ∧ Rep G F d u := by
  cases h with
  | @ob _ _ a dx xs more h hl r =>
    obtain ⟨o', e', g⟩ := sb _ _ h
    obtain ⟨m, eo⟩ := g.ins
    subst eo
    obtain ⟨u, e1, ru⟩ := r.get e
    exact ⟨a, dx, _, u, rfl, e', by rw [List.append_assoc]; exact zip_lookup _ co.nd hf e1, ru⟩
theorem e_fl {e : Expr} {f : Str} {pos : Pos} {g : M D} (tb : List (Nat × Nat)) (he : PE X e (tE G W OX O O1 g)) (ht : ∀ c i, tb.lookup c = some i → ClsOk G c ∧ (G.lay c)[i]? = some f) (hb : attributeBase e f X.env (eval e X.env) = eval e X.env := by rfl) (hK : X.K = G.K := by rfl) :
    PE X (.Attribute e f pos) (tE G W OX O O1 (eFl tb g)) :=
  (pe_fld he hb).imp fun σ H Q ⟨F, r, S, p⟩ => tX_bind S p fun x v F1 H1 r1 n1 rx p => by
    cases rx with
    | @ob c l a dx xs more h hl rr =>
      revert p
      simp only
      cases e1 : tb.lookup c with
      | none => exact fun p => p.elim
      | some i =>
        intro p
        obtain ⟨d, e2, q⟩ := Pst.lift p
        obtain ⟨co, hf⟩ := ht c i e1
        obtain ⟨a', dx', fs, u, ev, e3, e4, ru⟩ := Rep.field n1.sta.sub (.ob h hl rr) co hf e2
        rw [hK]
        exact ⟨a', _, dx', fs, u, ev, e3, co.cl, co.na f (List.mem_of_getElem? hf), e4, q.ok n1.sta ru⟩
    | _ => exact p.elim
/-- a property's getter -/
structure PrOk (G : Gm) (P : Program) (w : World) (mg : Str → Option Value) (base : Heap) (k : Nat) (c : Nat) (f : Str) (B : Beh) : Prop where
  cl : Cls G.K (G.cA c)
  pr : ∃ p g fd ps, PropOf G.K (G.cA c) f p g ∧ FnB P w G mg base k g fd ps 1 [] B ∧ Binds G.K fd ps []
theorem e_pr {e : Expr} {f : Str} {pos : Pos} {g : M D} {k : Nat} (tb : List (Nat × Beh)) (hr : Room (k + 1) X.A) (he : PE X e (tE G W OX O O1 g)) (ht : ∀ c B, tb.lookup c = some B → PrOk G X.prog X.w X.mg X.base k c f B)
    (hb : attributeBase e f X.env (eval e X.env) = eval e X.env := by rfl) (hK : X.K = G.K := by rfl) : PE X (.Attribute e f pos) (tE G W OX O O1 (ePr tb g)) := by
  refine ⟨fun pins s σ H Q I ⟨F, r, S, p⟩ => ?_⟩
  refine attr_of hb (thn (he.run pins s σ H (fun v H1 => ∃ x F1 r1, Sta G O1 F1 H1 σ r1 ∧ Rep G F1 x v ∧ Pst G W OX O1 O1 σ F1 H1 (RD G) Q (match (motive := D → Out D) x with
    | .ob c l => (match tb.lookup c with
      | some B => okOut (B [.ob c l]) r1
      | none => .no)
    | _ => .no)) I (tX_bind S p fun x v F1 H1 r1 n1 rx p => ⟨x, F1, r1, n1.sta, rx, p⟩)) fun u s1 ⟨v, H1, I1, ru, x, F1, r1, S1, rx, p⟩ => ?_)
  cases rx with
  | @ob c l a dx xs more h hl rr =>
    revert p
    simp only
    cases e1 : tb.lookup c with
    | none => exact fun p => p.elim
    | some B =>
      intro p
      have p : Pst G W OX O1 O1 σ F1 H1 (RD G) Q (okOut (B [.ob c l]) r1) := p
      obtain ⟨cl, pp, gg, fd, ps, hp, Fk, hbd⟩ := ht c B e1
      obtain ⟨o', e', gr⟩ := S1.sub _ _ h
      obtain ⟨m, eo⟩ := gr.ins
      subst eo
      obtain rfl : u = Value.ref a := ru
      have Fk' : FnOk X.prog X.w X.K X.mg X.base (L2.CX X.prog X.w) k gg fd ps (spB G 1 [] B) := by rw [hK]; exact Fk
      have hp' : PropOf X.K (G.cA c) f pp gg := by rw [hK]; exact hp
      refine getprop_ok I1 e' (by rw [hK]; exact cl) hp' Fk' hr (by rw [hK]; exact hbd) .nil (E := fun _ _ _ => False) (fun _ _ _ _ _ _ _ ⟨_, _, _, _, _, _, _, _, _, _, _, _, z⟩ => z.elim) ?_
      have sp := spB_of (W := fun _ _ _ _ => False) (OX := []) (σ := σ) (r := r1) (O := O1) (B := B) (ds := [.ob c l]) (vs := [.ref a]) (Q := Q) (n := 1) (fun _ z => nomatch z) S1 (.cons (.ob h hl rr) .nil) rfl ?_
      · exact sp
      · revert p
        cases B [.ob c l] with
        | ok d q => exact fun p v' F' H' n rd => p v' F' H' ⟨n.sta, n.stp, fun _ _ => rfl, n.pv⟩ rd
        | ex e q => exact fun p => p.elim
        | no => exact fun p => p.elim
  | _ => exact p.elim

/-! ### calls -/
/-- a def of the text under a name of its own -/
structure GlOk (G : Gm) (P : Program) (w : World) (mg : Str → Option Value) (base : Heap) (k : Nat) (x : Str) (n : Nat) (io : List Nat) (B : Beh) (f : Addr) (fd : FuncData) (ps : List Str) : Prop where
  at_ : mg x = some (.ref f)
  kp : PySem.W.keepIn G.K (.ref f) = true
  fn : FnB P w G mg base k f fd ps n io B
  ar : ∀ ds, ds.length ≠ n → B ds = .no
theorem ar_of {n m : Nat} {io : List Nat} {b : M Fl} : ∀ ds, ds.length ≠ n → mkB n m io b ds = .no := fun ds h => if_neg h
theorem len_of {σ : L2.St} {F H : Hp} {r : Ev} {n : Nat} {B : Beh} {ds : List D} {vs : List V} {Q : VK} (ar : ∀ ds, ds.length ≠ n → B ds = .no) (rs : RepL G F ds vs) (p : Pst G W OX O O σ F H (RD G) Q (out0 (B ds) r)) : vs.length = n := by
  by_cases h : ds.length = n
  · rw [← rs.length, h]
  · rw [ar ds h] at p
    exact p.elim
theorem run_B {k : Nat} {f : Addr} {fd : FuncData} {ps : List Str} {n : Nat} {io : List Nat} {B : Beh} {pins : List (Addr × Obj)} {σ : L2.St} {H : Hp} {s : Shared} {Q : VK} {us ds : List Value} {vs dvs : List V} (tk : Takes X W) (F : FnOk X.prog X.w X.K X.mg X.base (L2.CX X.prog X.w) k f fd ps (spB G n io B))
    (hr : Room k X.A) (hb : Binds X.K fd ps ds) (hd : Vals dvs ds) (I : Inv X pins σ H s) (r : Vals vs us) (h : spB G n io B (vs ++ dvs) H Q (fun c dx H' => W c dx σ H')) : wpAny (model X.prog X.w) X.A (call (.ref f) us) (EP X pins σ Q) X.xe s :=
  run_fnSD (E := WE W) F hr hb hd (passAt tk σ) I r h
theorem RepL.more {F : Hp} {ds dd : List D} {vs dvs : List V} (h : RepL G F ds vs) (h' : ∀ F, RepL G F dd dvs) : RepL G F (ds ++ dd) (vs ++ dvs) := h.app (h' F)
@[simp] def eCd (B : Beh) (dd : List D) (f : M (List D)) : M D := fun r => (f r).bind fun ds r1 => out0 (B (ds ++ dd)) r1
/-- f(e, ..), the last parameters by their defaults dd -/
theorem e_call {x : Str} {p pos : Pos} {e : Expr} {es : List Expr} {k n : Nat} {B : Beh} {f : Addr} {fd : FuncData} {ps : List Str} {g : M (List D)} {ds : List Value} {dvs : List V} {dd : List D} (tk : Takes X W) (hr : Room k X.A) (gl : GlOk G X.prog X.w X.mg X.base k x n [] B f fd ps)
    (hb : Binds G.K fd ps ds) (hd : Vals dvs ds) (hdd : ∀ F, RepL G F dd dvs) (ha : PA X (e :: es) (tA G W OX O O1 g)) (hx : ∀ i ∈ OX, i ∈ O1 := by decide) (hg : Gl X x := by rfl) (hK : X.K = G.K := by rfl) (hdb : (x == ("__debug__" : Str)) = false := by decide)
    (he : starEach (e :: es) X.env = (false, eval e X.env) :: starEach es X.env := by rfl) (hpl : (backTo pos (starEach es X.env)).any (·.1) = false := by rfl) : PE X (.Call (.Name x p) (e :: es) [] pos) (tE G W OX O O1 (eCd B dd g)) := by
  refine ⟨fun pins s σ H Q I ⟨F, r, S, p⟩ => ?_⟩
  refine wpAny_Call_Name_kw (ld_glob I hg gl.at_ ?_ hdb)
  refine PySem.W.callWith_K (h₀ := X.base) I.ok.mod.kin (by rw [hK]; exact gl.kp) (thn (ha.run pos pins s σ H (fun vs H1 => ∃ ds F1 r1, Sta G O1 F1 H1 σ r1 ∧ RepL G F1 ds vs ∧ Pst G W OX O1 O1 σ F1 H1 (RD G) Q (out0 (B (ds ++ dd)) r1)) I
    (tX_bind S p fun ds vs F1 H1 r1 n1 rs p => ⟨ds, F1, r1, n1.sta, rs, p⟩)) fun us s1 ⟨vs, H1, I1, rv, ds, F1, r1, S1, rs, p⟩ => ⟨I1.kIn, ?_⟩) he hpl
  have Fk : FnOk X.prog X.w X.K X.mg X.base (L2.CX X.prog X.w) k f fd ps (spB G n [] B) := by rw [hK]; exact gl.fn
  exact run_B tk Fk hr (by rw [hK]; exact hb) hd I1 rv (spB_of hx S1 (rs.more hdd) (len_of gl.ar (rs.more hdd) p) p)
end
end Z

/-! Calls: keywords, methods, static methods, new instances, owned arguments; the text's own operators. -/
namespace Z
open PySem PySem.Spec PyProof.Rows L2

/-- the items of l at the places o -/
def permL {α : Type} (o : List Nat) (l : List α) : List α := o.filterMap fun i => l[i]?
@[simp] def eCk (B : Beh) (n m : Nat) (o : List Nat) (dd : List D) (f g : M (List D)) : M D := fun r => (f r).bind fun ds r1 => (g r1).bind fun zs r2 => if ds.length = n ∧ zs.length = m then out0 (B (permL o (ds ++ zs ++ dd))) r2 else .no
@[simp] def eNk (c : Nat) (B : Beh) (n m : Nat) (o : List Nat) (dd : List D) (f g : M (List D)) : M D := fun r => (f r).bind fun ds r1 => (g r1).bind fun zs r2 => if ds.length = n ∧ zs.length = m then outN (B (.ob c [] :: permL o (ds ++ zs ++ dd))) r2 else .no
@[simp] def eNd (c : Nat) (B : Beh) (dd : List D) (f : M (List D)) : M D := fun r => (f r).bind fun ds r1 => outN (B (.ob c [] :: (ds ++ dd))) r1
/-- by the class of x -/
@[simp] def onMt (tb : List (Nat × Beh)) (x : D) (k : Beh → Out D) : Out D := match x with
  | .ob c fs => (match tb.lookup c with
    | some B => k fun l => B (.ob c fs :: l)
    | none => .no)
  | _ => .no
@[simp] def eMd (tb : List (Nat × Beh)) (dd : List D) (f : M D) (g : M (List D)) : M D := fun r => (f r).bind fun x r1 => onMt tb x fun B => (g r1).bind fun ds r2 => out0 (B (ds ++ dd)) r2
@[simp] def eMk (tb : List (Nat × Beh)) (n m : Nat) (o : List Nat) (dd : List D) (f : M D) (g h : M (List D)) : M D := fun r => (f r).bind fun x r1 => onMt tb x fun B => (g r1).bind fun ds r2 => (h r2).bind fun zs r3 => if ds.length = n ∧ zs.length = m then out0 (B (permL o (ds ++ zs ++ dd))) r3 else .no
@[simp] def eCo (B : Beh) (i : Nat) (f : M (List D)) : M D := fun r => (f r).bind fun ds r1 => match r1[i]? with
  | some (some d0) => out1 (B (d0 :: ds)) i r1
  | _ => .no

section
variable {G : Gm} {X : Cx} {W : WX} {OX OL O O1 O2 O3 : List Nat}
theorem RepL.perm {F : Hp} {l : List D} {xs : List V} (h : RepL G F l xs) : ∀ o : List Nat, RepL G F (permL o l) (permL o xs)
  | [] => .nil
  | i :: o => by
    unfold permL
    rw [List.filterMap_cons, List.filterMap_cons]
    cases e : l[i]? with
    | none =>
      have : xs[i]? = none := by
        rw [List.getElem?_eq_none_iff] at e ⊢
        rw [← h.length]
        exact e
      rw [this]
      exact RepL.perm h o
    | some d =>
      obtain ⟨v, e1, r1⟩ := h.get e
      rw [e1]
      exact .cons r1 (RepL.perm h o)
theorem Vals.perm {l : List V} {xs : List Value} (h : Vals l xs) : ∀ o : List Nat, Vals (permL o l) (permL o xs)
  | [] => .nil
  | i :: o => by
    unfold permL
    rw [List.filterMap_cons, List.filterMap_cons]
    cases e : l[i]? with
    | none =>
      rw [L2.Vals.none_of h e]
      exact Vals.perm h o
    | some d =>
      obtain ⟨v, e1, r1⟩ := L2.Vals.get h e
      rw [e1]
      exact .cons r1 (Vals.perm h o)
/-- how a call with keywords binds -/
def BindK (K : PySem.W.Frag) (fd : FuncData) (ps : List Str) (n : Nat) (ks : List Str) (o : List Nat) (ds : List Value) : Prop :=
  ∀ (s : Shared) (us ws : List Value), K.In s.heap → us.length = n → ws.length = ks.length → BindsTo s fd ⟨us, ks.zip ws⟩ (ps.zip (permL o (us ++ ws ++ ds)))
theorem k_nil : PK X [] (tA G W OX O O aNil) := ⟨fun pos pins s σ H Q I ⟨F, r, S, p⟩ => pk_nil.run pos pins s σ H Q I (p.ok S .nil)⟩
theorem k_cons {e : Expr} {kws : List Keyword} {nm : Option Str} {kpos : Pos} {f : M D} {g : M (List D)} (ha : PE X e (tE G W OX O O1 f)) (hr : PK X kws (tA G W OX O1 O2 g)) : PK X (⟨nm, e, kpos⟩ :: kws) (tA G W OX O O2 (aCons f g)) :=
  ⟨fun pos pins s σ H Q I ⟨F, r, S, p⟩ => (pk_cons ha hr).run pos pins s σ H Q I (tX_bind S p fun x v F1 H1 r1 n1 rx p => tX_bind n1.sta p fun xs vs F2 H2 r2 n2 rxs p2 => p2.ok n2.sta (.cons (rx.mono n2.stp.fz) rxs))⟩
theorem run_Bk {k : Nat} {f : Addr} {fd : FuncData} {ps : List Str} {n : Nat} {io : List Nat} {B : Beh} {pins : List (Addr × Obj)} {σ : L2.St} {H : Hp} {s : Shared} {Q : VK} {us us' : List Value} {kw : List (Str × Value)} {vs : List V} (tk : Takes X W)
    (F : FnOk X.prog X.w X.K X.mg X.base (L2.CX X.prog X.w) k f fd ps (spB G n io B)) (hr : Room k X.A) (bt : BindsTo s fd ⟨us, kw⟩ (ps.zip us')) (I : Inv X pins σ H s) (r : Vals vs us') (h : spB G n io B vs H Q (fun c dx H' => W c dx σ H')) :
    wpAny (model X.prog X.w) X.A (call (.ref f) us kw) (EP X pins σ Q) X.xe s := by
  have run := F.run X.A X.stack s H ⟨us, kw⟩ us' vs Q (fun c dx H' => W c dx σ H') hr I.env0 bt r h
  refine wpAny_call (codeAny_mono run fun res s' back => ?_)
  match res, back with
  | .error er, back => exact passAt tk σ pins H s er s' I back
  | .ok (.ret u), back => exact I.after back
  | .ok .next, back => exact back.elim
  | .ok .brk, back => exact back.elim
  | .ok .cont, back => exact back.elim
/-- C(..) with an __init__ of the text -/
theorem run_Nk {k c : Nat} {f : Addr} {fd : FuncData} {ps : List Str} {n : Nat} {B : Beh} {pins : List (Addr × Obj)} {σ : L2.St} {F H : Hp} {r : Ev} {s : Shared} {Q : VK} {us us' : List Value} {kw : List (Str × Value)} {vs : List V} {ds : List D} (tk : Takes X W)
    (F1 : FnOk X.prog X.w X.K X.mg X.base (L2.CX X.prog X.w) k f fd ps (spB G n [0] B)) (hr : Room (k + 1) X.A) (Mc : Mk X.K (G.cA c) f) (him : G.imm c = true)
    (bt : ∀ (s : Shared) (x : Value), X.K.In s.heap → BindsTo s fd ⟨x :: us, kw⟩ (ps.zip (x :: us'))) (I : Inv X pins σ H s) (S : Sta G O F H σ r) (rv : Vals vs us') (rs : RepL G F ds vs) (ar : ∀ ds, ds.length ≠ n → B ds = .no) (hx : ∀ i ∈ OX, i ∈ O)
    (p : Pst G W OX O O σ F H (RD G) Q (outN (B (.ob c [] :: ds)) r)) : wpAny (model X.prog X.w) X.A (call (.ref (G.cA c)) us kw) (EP X pins σ Q) X.xe s := by
  have hn : (V.ref 0 :: vs).length = n := by
    by_cases h : (D.ob c [] :: ds).length = n
    · rw [← h, List.length_cons, List.length_cons, rs.length]
    · rw [ar _ h] at p
      exact p.elim
  -- the new instance
  have nx : H (s.heap.objs.size + 1) = none := I.hok.fresh (Nat.le_succ _)
  have nd : H s.heap.objs.size = none := I.hok.fresh (Nat.le_refl _)
  have ne : s.heap.objs.size + 1 ≠ s.heap.objs.size := Nat.succ_ne_self _
  have I2 := Inv.made (C := G.cA c) I
  generalize hxa : s.heap.objs.size + 1 = x at nx ne I2
  generalize hda : s.heap.objs.size = dx at nd ne I2
  have fx : F x = none := by
    cases q : F x with
    | none => rfl
    | some u =>
      obtain ⟨o', e, _⟩ := S.sub x u q
      rw [nx] at e
      cases e
  have hH : ∀ {a : Addr} {o : HO}, H a = some o → upd (upd H dx (.own x)) x (.ins (G.cA c) dx []) a = some o := fun {a o} e => by
    rw [upd_ne (ne_of_none e nx), upd_ne (ne_of_none e nd)]
    exact e
  have sb : Sub F (upd (upd H dx (.own x)) x (.ins (G.cA c) dx [])) := fun a o e => by
    obtain ⟨o', e', g⟩ := S.sub a o e
    exact ⟨o', hH e', g⟩
  have wf : Wf G (upd (upd H dx (.own x)) x (.ins (G.cA c) dx [])) := fun a C d fs g e hf => by
    by_cases q : a = x
    · rw [q, upd_same] at e
      cases e
      exact absurd rfl hf
    · rw [upd_ne q] at e
      exact (S.wf.upd rfl) a C d fs g e hf
  have SA : Sta G [0] F (upd (upd H dx (.own x)) x (.ins (G.cA c) dx [])) ((V.ref x :: vs).map some) ((D.ob c [] :: ds).map some) := by
    have A := Sta.args (H := upd (upd H dx (.own x)) x (.ins (G.cA c) dx [])) sb wf rs
    refine ⟨sb, wf, by simp [rs.length], fun j d hj e => ?_, fun j hj => ?_, fun j k a hj hk _ _ => ?_⟩
    · cases j with
      | zero => exact absurd (List.mem_singleton.mpr rfl) hj
      | succ j => exact A.rp j d (by simp) (by simpa using e)
    · rw [List.mem_singleton.mp hj]
      exact ⟨.ob c [], .ref x, rfl, rfl, .ob (xs := []) (dx := dx) (by rw [List.zip_nil_right]; exact upd_same) (.inl fx) (Nat.zero_le _) .nil⟩
    · rw [List.mem_singleton.mp hj, List.mem_singleton.mp hk]
  have mo : ∀ a, OwnAt [0] ((V.ref x :: vs).map some) a → a = x := fun a ⟨j, hj, e⟩ => by
    rw [List.mem_singleton.mp hj] at e
    have e' : V.ref x = V.ref a := by simpa using e
    injection e' with e''
    exact e''.symm
  have st0 : ∀ {F' H' : Hp} {q : Ev}, Nx G [0] [0] [0] ((V.ref x :: vs).map some) F (upd (upd H dx (.own x)) x (.ins (G.cA c) dx [])) ((V.ref x :: vs).map some) F' H' q → Stp (fun _ => False) F H F' H' := fun {F' H' q} n =>
    ⟨n.stp.fz, fun a o e _ => n.stp.kp a o (hH e) (fun m => nomatch (show (none : Option HO) = some o by rw [← nx, ← mo a m]; exact e)), fun a o e _ => n.stp.nf a o (hH e) (fun m => nomatch (show (none : Option HO) = some o by rw [← nx, ← mo a m]; exact e)), fun a e => upd_none (upd_none (n.stp.tr a e))⟩
  have hsp : spB G n [0] B (V.ref x :: vs) (upd (upd H dx (.own x)) x (.ins (G.cA c) dx [])) (fun v H2 => v = .non ∧ Q (.ref x) H2) (fun cl d H' => W cl d σ H') := by
    refine ⟨by rw [← hn]; rfl, F, .ob c [] :: ds, SA, ?_⟩
    revert p
    cases B (.ob c [] :: ds) with
    | no => exact fun p => p.elim
    | ex e q =>
        intro p cl d F' H' n xr
        have n2 : Nx G OX O O σ F H σ F' H' r := Nx.of (S.stay (st0 n) n.sta.sub n.sta.wf fun _ _ z => z) ((st0 n).weak fun _ z => z.elim) fun _ h => h
        obtain ⟨F2, n3, s3⟩ := n2.freeze hx
        exact p cl d F2 H' n3 (xr.mono s3)
    | ok d q =>
      intro p v F' H' n rd
      cases d with
      | non =>
        cases rd
        obtain ⟨d', v', e1, e2, ow⟩ := n.sta.ow 0 (by simp)
        have ev : V.ref x = v' := by simpa using e2
        subst ev
        refine ⟨rfl, ?_⟩
        have p : Pst G W OX O O σ F H (RD G) Q (match q[0]? with | some (some d) => .ok d r | _ => .no) := p
        rw [e1] at p
        obtain ⟨F2, a, ob, ea, hob, rfl, k1, k2, rp⟩ := ow.freeze n.sta.sub
        cases ea
        refine p _ _ H' (Nx.of (S.stay ⟨(st0 n).fz.trans k1, (st0 n).kp, fun a o e m => ?_, (st0 n).tr⟩ k2 n.sta.wf fun _ _ z => z) ⟨(st0 n).fz.trans k1, fun a o e _ => (st0 n).kp a o e fun z => z, fun a o e _ => ?_, (st0 n).tr⟩ fun _ h => h) rp
        · rw [upd_ne (ne_of_none e nx)]
          exact (st0 n).nf a o e fun z => z
        · rw [upd_ne (ne_of_none e nx)]
          exact (st0 n).nf a o e fun z => z
      | _ => exact p.elim
  have run := F1.run (X.A.under (.builtin "type.__call__" ⟨.ref (G.cA c) :: us, kw⟩)) X.stack { s with heap := (s.heap.push PySem.W.emptyDict).push (PySem.W.instObj (G.cA c) dx) } _ ⟨.ref x :: us, kw⟩ (.ref x :: us') (V.ref x :: vs) _ _ (hr.make _ us kw)
    (by have q := I2.env0.make (G.cA c) us kw; exact q) (bt _ _ I2.kIn) (.cons rfl rv) hsp
  refine wpAny_call (make_map (f := f) I.kIn Mc.makes Mc.init (beq_iff_eq.mp Mc.fn) ?_)
  rw [hxa, hda]
  refine codeAny_mono run fun res s' back => ?_
  match res, back with
  | .error er, back => exact passAt tk σ pins _ _ er s' I2 back
  | .ok (.ret u), back =>
    obtain ⟨v, H', I3, rv', ev, q3⟩ := I2.after back
    subst ev
    exact ⟨rv', ⟨V.ref x, H', I3, rfl, q3⟩⟩
  | .ok .next, back => exact back.elim
  | .ok .brk, back => exact back.elim
  | .ok .cont, back => exact back.elim

/-! ### the forms of calls -/
/-- e, ..; k = e, ..: both parts evaluated -/
theorem cw1 {fv : Value} {first : List Value} {e : Expr} {es : List Expr} {kws : List Keyword} {ks : List Str} {pos : Pos} {f g : M (List D)} {k : List D → List D → Ev → Out D} {pins : List (Addr × Obj)} {σ : L2.St} {F H : Hp} {r : Ev} {s : Shared} {Q : VK}
    (hk : PySem.W.keepIn X.K fv = true) (ha : PA X (e :: es) (tA G W OX O O1 f)) (hkw : PK X kws (tA G W OX O1 O2 g)) (I : Inv X pins σ H s) (S : Sta G O F H σ r) (p : Pst G W OX O O2 σ F H (RD G) Q ((f r).bind fun ds r1 => (g r1).bind fun zs r2 => k ds zs r2))
    (cont : ∀ (ds zs : List D) (vs ys : List V) (us ws : List Value) (s2 : Shared) (F2 H2 : Hp) (r2 : Ev), Inv X pins σ H2 s2 → Nx G OX O O2 σ F H σ F2 H2 r2 → RepL G F2 ds vs → RepL G F2 zs ys → Vals vs us → Vals ys ws → Pst G W OX O2 O2 σ F2 H2 (RD G) Q (k ds zs r2) →
      wpAny (model X.prog X.w) X.A (call fv (first ++ us) (ks.zip ws)) (EP X pins σ Q) X.xe s2)
    (hall : (backToKw pos (keywordEach kws X.env)).all (·.1.isSome) = true := by rfl) (hks : (backToKw pos (keywordEach kws X.env)).filterMap (·.1) = ks := by rfl) (he : starEach (e :: es) X.env = (false, eval e X.env) :: starEach es X.env := by rfl)
    (hpl : ((backTo pos (starEach (e :: es) X.env)).any (·.1) || (backToKw pos (keywordEach kws X.env)).any (·.1.isNone)) = false := by rfl) :
    wpAny (model X.prog X.w) X.A (callWith pos fv first (backTo pos (starEach (e :: es) X.env)) (backToKw pos (keywordEach kws X.env))) (EP X pins σ Q) X.xe s := by
  refine PySem.W.callWith_KW (h₀ := X.base) I.ok.mod.kin hk hall (thn (ha.run pos pins s σ H (fun vs H1 => ∃ ds F1 r1, Nx G OX O O1 σ F H σ F1 H1 r1 ∧ RepL G F1 ds vs ∧ Pst G W OX O1 O2 σ F1 H1 (RD G) Q ((g r1).bind fun zs r2 => k ds zs r2)) I
    (tX_bind S p fun ds vs F1 H1 r1 n1 rs p => ⟨ds, F1, r1, n1, rs, p⟩)) fun us s1 ⟨vs, H1, I1, rv, ds, F1, r1, n1, rs, p⟩ => ?_) hpl he
  refine thn (hkw.run pos pins s1 σ H1 (fun ys H2 => ∃ zs F2 r2, Nx G OX O1 O2 σ F1 H1 σ F2 H2 r2 ∧ RepL G F2 zs ys ∧ Pst G W OX O2 O2 σ F2 H2 (RD G) Q (k ds zs r2)) I1
    (tX_bind n1.sta p fun zs ys F2 H2 r2 n2 rz p => ⟨zs, F2, r2, n2, rz, p⟩)) fun ws s2 ⟨ys, H2, I2, rw', zs, F2, r2, n2, rz, p⟩ => ⟨I2.kIn, ?_⟩
  rw [hks]
  exact cont ds zs vs ys us ws s2 F2 H2 r2 I2 (n1.trans n2) (rs.mono n2.stp.fz) rz rv rw' p
theorem cw0 {fv : Value} {first : List Value} {kws : List Keyword} {ks : List Str} {pos : Pos} {g : M (List D)} {k : List D → List D → Ev → Out D} {pins : List (Addr × Obj)} {σ : L2.St} {F H : Hp} {r : Ev} {s : Shared} {Q : VK}
    (hk : PySem.W.keepIn X.K fv = true) (hkw : PK X kws (tA G W OX O O2 g)) (I : Inv X pins σ H s) (S : Sta G O F H σ r) (p : Pst G W OX O O2 σ F H (RD G) Q ((g r).bind fun zs r2 => k [] zs r2))
    (cont : ∀ (ds zs : List D) (vs ys : List V) (us ws : List Value) (s2 : Shared) (F2 H2 : Hp) (r2 : Ev), Inv X pins σ H2 s2 → Nx G OX O O2 σ F H σ F2 H2 r2 → RepL G F2 ds vs → RepL G F2 zs ys → Vals vs us → Vals ys ws → Pst G W OX O2 O2 σ F2 H2 (RD G) Q (k ds zs r2) →
      wpAny (model X.prog X.w) X.A (call fv (first ++ us) (ks.zip ws)) (EP X pins σ Q) X.xe s2)
    (hall : (backToKw pos (keywordEach kws X.env)).all (·.1.isSome) = true := by rfl) (hks : (backToKw pos (keywordEach kws X.env)).filterMap (·.1) = ks := by rfl)
    (hpl : ((backTo pos (starEach [] X.env)).any (·.1) || (backToKw pos (keywordEach kws X.env)).any (·.1.isNone)) = false := by rfl) :
    wpAny (model X.prog X.w) X.A (callWith pos fv first (backTo pos (starEach [] X.env)) (backToKw pos (keywordEach kws X.env))) (EP X pins σ Q) X.xe s := by
  refine PySem.W.callWith_KW0 (h₀ := X.base) I.ok.mod.kin hk hall (thn (hkw.run pos pins s σ H (fun ys H2 => ∃ zs F2 r2, Nx G OX O O2 σ F H σ F2 H2 r2 ∧ RepL G F2 zs ys ∧ Pst G W OX O2 O2 σ F2 H2 (RD G) Q (k [] zs r2)) I
    (tX_bind S p fun zs ys F2 H2 r2 n2 rz p => ⟨zs, F2, r2, n2, rz, p⟩)) fun ws s2 ⟨ys, H2, I2, rw', zs, F2, r2, n2, rz, p⟩ => ⟨I2.kIn, ?_⟩) hpl
  rw [hks]
  exact cont [] zs [] ys [] ws s2 F2 H2 r2 I2 n2 .nil rz .nil rw' p
/-- a class that is made by its __init__ -/
structure NwOk (G : Gm) (P : Program) (w : World) (mg : Str → Option Value) (base : Heap) (k : Nat) (x : Str) (c : Nat) (n : Nat) (B : Beh) (f : Addr) (fd : FuncData) (ps : List Str) : Prop where
  at_ : mg x = some (.ref (G.cA c))
  mkd : Mk G.K (G.cA c) f
  imm : G.imm c = true
  fn : FnB P w G mg base k f fd ps n [0] B
  ar : ∀ ds, ds.length ≠ n → B ds = .no
  pl : ps.length = n
theorem lenN {σ : L2.St} {F H : Hp} {r : Ev} {n : Nat} {B : Beh} {ds : List D} {Q : VK} (ar : ∀ ds, ds.length ≠ n → B ds = .no) (p : Pst G W OX O O σ F H (RD G) Q (outN (B ds) r)) : ds.length = n := by
  by_cases h : ds.length = n
  · exact h
  · rw [ar ds h] at p
    exact p.elim
theorem len0 {σ : L2.St} {F H : Hp} {r : Ev} {n : Nat} {B : Beh} {ds : List D} {Q : VK} (ar : ∀ ds, ds.length ≠ n → B ds = .no) (p : Pst G W OX O O σ F H (RD G) Q (out0 (B ds) r)) : ds.length = n := by
  by_cases h : ds.length = n
  · exact h
  · rw [ar ds h] at p
    exact p.elim
theorem vlen {vs : List V} {us : List Value} (h : Vals vs us) : us.length = vs.length := h.length.symm
theorem e_new {x : Str} {p pos : Pos} {e : Expr} {es : List Expr} {k n c : Nat} {B : Beh} {f : Addr} {fd : FuncData} {ps : List Str} {g : M (List D)} {ds : List Value} {dvs : List V} {dd : List D} (tk : Takes X W) (hr : Room (k + 1) X.A) (nw : NwOk G X.prog X.w X.mg X.base k x c n B f fd ps)
    (hb : Binds G.K fd ps ds) (hd : Vals dvs ds) (hdd : ∀ F, RepL G F dd dvs) (ha : PA X (e :: es) (tA G W OX O O1 g)) (hx : ∀ i ∈ OX, i ∈ O1 := by decide) (hg : Gl X x := by rfl) (hK : X.K = G.K := by rfl) (hdb : (x == ("__debug__" : Str)) = false := by decide)
    (he : starEach (e :: es) X.env = (false, eval e X.env) :: starEach es X.env := by rfl) (hpl : (backTo pos (starEach es X.env)).any (·.1) = false := by rfl) : PE X (.Call (.Name x p) (e :: es) [] pos) (tE G W OX O O1 (eNd c B dd g)) := by
  refine ⟨fun pins s σ H Q I ⟨F, r, S, p⟩ => ?_⟩
  refine wpAny_Call_Name_kw (ld_glob I hg nw.at_ ?_ hdb)
  refine PySem.W.callWith_K (h₀ := X.base) I.ok.mod.kin (by rw [hK]; exact nw.mkd.kp) (thn (ha.run pos pins s σ H (fun vs H1 => ∃ ds F1 r1, Sta G O1 F1 H1 σ r1 ∧ RepL G F1 ds vs ∧ Pst G W OX O1 O1 σ F1 H1 (RD G) Q (outN (B (.ob c [] :: (ds ++ dd))) r1)) I
    (tX_bind S p fun ds vs F1 H1 r1 n1 rs p => ⟨ds, F1, r1, n1.sta, rs, p⟩)) fun us s1 ⟨vs, H1, I1, rv, zs, F1, r1, S1, rs, p⟩ => ⟨I1.kIn, ?_⟩) he hpl
  have Fk : FnOk X.prog X.w X.K X.mg X.base (L2.CX X.prog X.w) k f fd ps (spB G n [0] B) := by rw [hK]; exact nw.fn
  have hl := lenN nw.ar p
  have rs2 := rs.more hdd
  have rv2 := rv.append hd
  refine run_Nk (ds := zs ++ dd) (vs := vs ++ dvs) (us' := us ++ ds) tk Fk hr (by rw [hK]; exact nw.mkd) nw.imm (fun s x hk => ?_) I1 S1 rv2 rs2 nw.ar hx p
  have hb' : Binds X.K fd ps ds := by rw [hK]; exact hb
  refine hb' s (x :: us) hk ?_
  rw [nw.pl, ← hl, List.cons_append, List.length_cons, List.length_cons, vlen rv2, rs2.length]
/-- C() -/
theorem e_new0 {x : Str} {p pos : Pos} {k n c : Nat} {B : Beh} {f : Addr} {fd : FuncData} {ps : List Str} {ds : List Value} {dvs : List V} {dd : List D} (tk : Takes X W) (hr : Room (k + 1) X.A) (nw : NwOk G X.prog X.w X.mg X.base k x c n B f fd ps)
    (hb : Binds G.K fd ps ds) (hd : Vals dvs ds) (hdd : ∀ F, RepL G F dd dvs) (hx : ∀ i ∈ OX, i ∈ O := by decide) (hg : Gl X x := by rfl) (hK : X.K = G.K := by rfl) (hdb : (x == ("__debug__" : Str)) = false := by decide) :
    PE X (.Call (.Name x p) [] [] pos) (tE G W OX O O (eNd c B dd aNil)) := by
  refine ⟨fun pins s σ H Q I ⟨F, r, S, p⟩ => ?_⟩
  refine wpAny_Call_Name_kw (ld_glob I hg nw.at_ ?_ hdb)
  refine PySem.W.callWith_K0 I.kIn (by rw [hK]; exact nw.mkd.kp) ?_
  have Fk : FnOk X.prog X.w X.K X.mg X.base (L2.CX X.prog X.w) k f fd ps (spB G n [0] B) := by rw [hK]; exact nw.fn
  have p : Pst G W OX O O σ F H (RD G) Q (outN (B (.ob c [] :: dd)) r) := p
  have hl := lenN nw.ar p
  refine run_Nk (us := []) (ds := dd) (vs := dvs) (us' := ds) tk Fk hr (by rw [hK]; exact nw.mkd) nw.imm (fun s x hk => ?_) I S hd (hdd F) nw.ar hx p
  have hb' : Binds X.K fd ps ds := by rw [hK]; exact hb
  refine hb' s [x] hk ?_
  rw [nw.pl, ← hl, List.singleton_append, List.length_cons, List.length_cons, vlen hd, (hdd F).length]
/-- f(e, .., k = v, ..) -/
theorem e_callK {x : Str} {p pos : Pos} {e : Expr} {es : List Expr} {kws : List Keyword} {k n m a : Nat} {B : Beh} {f : Addr} {fd : FuncData} {ps ks : List Str} {g h : M (List D)} {o : List Nat} {ds : List Value} {dvs : List V} {dd : List D} (tk : Takes X W) (hr : Room k X.A) (gl : GlOk G X.prog X.w X.mg X.base k x a [] B f fd ps)
    (hb : BindK G.K fd ps n ks o ds) (hd : Vals dvs ds) (hdd : ∀ F, RepL G F dd dvs) (ha : PA X (e :: es) (tA G W OX O O1 g)) (hkw : PK X kws (tA G W OX O1 O2 h)) (hm : ks.length = m := by rfl) (hx : ∀ i ∈ OX, i ∈ O2 := by decide) (hg : Gl X x := by rfl) (hK : X.K = G.K := by rfl) (hdb : (x == ("__debug__" : Str)) = false := by decide)
    (hall : (backToKw pos (keywordEach kws X.env)).all (·.1.isSome) = true := by rfl) (hks : (backToKw pos (keywordEach kws X.env)).filterMap (·.1) = ks := by rfl) (he : starEach (e :: es) X.env = (false, eval e X.env) :: starEach es X.env := by rfl)
    (hpl : ((backTo pos (starEach (e :: es) X.env)).any (·.1) || (backToKw pos (keywordEach kws X.env)).any (·.1.isNone)) = false := by rfl) : PE X (.Call (.Name x p) (e :: es) kws pos) (tE G W OX O O2 (eCk B n m o dd g h)) := by
  refine ⟨fun pins s σ H Q I ⟨F, r, S, p⟩ => ?_⟩
  refine wpAny_Call_Name_kw (ld_glob I hg gl.at_ ?_ hdb)
  refine cw1 (first := []) (k := fun ds zs r2 => if ds.length = n ∧ zs.length = m then out0 (B (permL o (ds ++ zs ++ dd))) r2 else .no) (by rw [hK]; exact gl.kp) ha hkw I S p (fun ds' zs vs ys us ws s2 F2 H2 r2 I2 n2 rs rz rv rw' p => ?_) hall hks he hpl
  split at p
  · rename_i hl
    obtain ⟨h1, h2⟩ := hl
    have Fk : FnOk X.prog X.w X.K X.mg X.base (L2.CX X.prog X.w) k f fd ps (spB G a [] B) := by rw [hK]; exact gl.fn
    have rp := ((rs.app rz).app (hdd F2)).perm o
    have bt : BindK X.K fd ps n ks o ds := by rw [hK]; exact hb
    exact run_Bk tk Fk hr (bt s2 us ws I2.kIn (by rw [vlen rv, ← rs.length, h1]) (by rw [vlen rw', ← rz.length, h2, hm])) I2 (Vals.perm ((rv.append rw').append hd) o) (spB_of hx n2.sta rp (len_of gl.ar rp p) p)
  · exact p.elim
theorem e_callK0 {x : Str} {p pos : Pos} {kws : List Keyword} {k m a : Nat} {B : Beh} {f : Addr} {fd : FuncData} {ps ks : List Str} {h : M (List D)} {o : List Nat} {ds : List Value} {dvs : List V} {dd : List D} (tk : Takes X W) (hr : Room k X.A) (gl : GlOk G X.prog X.w X.mg X.base k x a [] B f fd ps)
    (hb : BindK G.K fd ps 0 ks o ds) (hd : Vals dvs ds) (hdd : ∀ F, RepL G F dd dvs) (hkw : PK X kws (tA G W OX O O2 h)) (hm : ks.length = m := by rfl) (hx : ∀ i ∈ OX, i ∈ O2 := by decide) (hg : Gl X x := by rfl) (hK : X.K = G.K := by rfl) (hdb : (x == ("__debug__" : Str)) = false := by decide)
    (hall : (backToKw pos (keywordEach kws X.env)).all (·.1.isSome) = true := by rfl) (hks : (backToKw pos (keywordEach kws X.env)).filterMap (·.1) = ks := by rfl)
    (hpl : ((backTo pos (starEach [] X.env)).any (·.1) || (backToKw pos (keywordEach kws X.env)).any (·.1.isNone)) = false := by rfl) : PE X (.Call (.Name x p) [] kws pos) (tE G W OX O O2 (eCk B 0 m o dd aNil h)) := by
  refine ⟨fun pins s σ H Q I ⟨F, r, S, p⟩ => ?_⟩
  refine wpAny_Call_Name_kw (ld_glob I hg gl.at_ ?_ hdb)
  refine cw0 (first := []) (k := fun ds zs r2 => if ds.length = 0 ∧ zs.length = m then out0 (B (permL o (ds ++ zs ++ dd))) r2 else .no) (by rw [hK]; exact gl.kp) hkw I S p (fun ds' zs vs ys us ws s2 F2 H2 r2 I2 n2 rs rz rv rw' p => ?_) hall hks hpl
  split at p
  · rename_i hl
    obtain ⟨h1, h2⟩ := hl
    have Fk : FnOk X.prog X.w X.K X.mg X.base (L2.CX X.prog X.w) k f fd ps (spB G a [] B) := by rw [hK]; exact gl.fn
    have rp := ((rs.app rz).app (hdd F2)).perm o
    have bt : BindK X.K fd ps 0 ks o ds := by rw [hK]; exact hb
    exact run_Bk tk Fk hr (bt s2 us ws I2.kIn (by rw [vlen rv, ← rs.length, h1]) (by rw [vlen rw', ← rz.length, h2, hm])) I2 (Vals.perm ((rv.append rw').append hd) o) (spB_of hx n2.sta rp (len_of gl.ar rp p) p)
  · exact p.elim
theorem permL_cons {α : Type} (z : α) (l : List α) (o : List Nat) : permL (0 :: o.map (· + 1)) (z :: l) = z :: permL o l := by
  unfold permL
  rw [List.filterMap_cons]
  simp only [List.getElem?_cons_zero]
  congr 1
  rw [List.filterMap_map]
  congr 1
/-- C(e, .., k = v, ..) -/
theorem e_newK {x : Str} {p pos : Pos} {e : Expr} {es : List Expr} {kws : List Keyword} {k n m a c : Nat} {B : Beh} {f : Addr} {fd : FuncData} {ps ks : List Str} {g h : M (List D)} {o : List Nat} {ds : List Value} {dvs : List V} {dd : List D} (tk : Takes X W) (hr : Room (k + 1) X.A) (nw : NwOk G X.prog X.w X.mg X.base k x c a B f fd ps)
    (hb : BindK G.K fd ps (n + 1) ks (0 :: o.map (· + 1)) ds) (hd : Vals dvs ds) (hdd : ∀ F, RepL G F dd dvs) (ha : PA X (e :: es) (tA G W OX O O1 g)) (hkw : PK X kws (tA G W OX O1 O2 h)) (hm : ks.length = m := by rfl) (hx : ∀ i ∈ OX, i ∈ O2 := by decide) (hg : Gl X x := by rfl) (hK : X.K = G.K := by rfl) (hdb : (x == ("__debug__" : Str)) = false := by decide)
    (hall : (backToKw pos (keywordEach kws X.env)).all (·.1.isSome) = true := by rfl) (hks : (backToKw pos (keywordEach kws X.env)).filterMap (·.1) = ks := by rfl) (he : starEach (e :: es) X.env = (false, eval e X.env) :: starEach es X.env := by rfl)
    (hpl : ((backTo pos (starEach (e :: es) X.env)).any (·.1) || (backToKw pos (keywordEach kws X.env)).any (·.1.isNone)) = false := by rfl) : PE X (.Call (.Name x p) (e :: es) kws pos) (tE G W OX O O2 (eNk c B n m o dd g h)) := by
  refine ⟨fun pins s σ H Q I ⟨F, r, S, p⟩ => ?_⟩
  refine wpAny_Call_Name_kw (ld_glob I hg nw.at_ ?_ hdb)
  refine cw1 (first := []) (k := fun ds zs r2 => if ds.length = n ∧ zs.length = m then outN (B (.ob c [] :: permL o (ds ++ zs ++ dd))) r2 else .no) (by rw [hK]; exact nw.mkd.kp) ha hkw I S p (fun ds' zs vs ys us ws s2 F2 H2 r2 I2 n2 rs rz rv rw' p => ?_) hall hks he hpl
  split at p
  · rename_i hl
    obtain ⟨h1, h2⟩ := hl
    have Fk : FnOk X.prog X.w X.K X.mg X.base (L2.CX X.prog X.w) k f fd ps (spB G a [0] B) := by rw [hK]; exact nw.fn
    have rp := ((rs.app rz).app (hdd F2)).perm o
    have bt : BindK X.K fd ps (n + 1) ks (0 :: o.map (· + 1)) ds := by rw [hK]; exact hb
    refine run_Nk tk Fk hr (by rw [hK]; exact nw.mkd) nw.imm (fun s x hk => ?_) I2 n2.sta (Vals.perm ((rv.append rw').append hd) o) rp nw.ar hx p
    have q := bt s (x :: us) ws hk (by rw [List.length_cons, vlen rv, ← rs.length, h1]) (by rw [vlen rw', ← rz.length, h2, hm])
    rw [List.cons_append, List.cons_append, permL_cons] at q
    exact q
  · exact p.elim

/-! ### methods -/
structure MtOk (G : Gm) (P : Program) (w : World) (mg : Str → Option Value) (base : Heap) (k : Nat) (c : Nat) (m : Str) (n : Nat) (B : Beh) (f : Addr) (fd : FuncData) (ps : List Str) (ds : List Value) (dvs : List V) : Prop where
  cl : Cls G.K (G.cA c)
  me : Meth G.K (G.cA c) m f
  fn : FnB P w G mg base k f fd ps n [] B
  ar : ∀ ds, ds.length ≠ n → B ds = .no
  bd : Binds G.K fd ps ds
  dv : Vals dvs ds
theorem look_m {F H : Hp} {c : Nat} {l : List D} {v : V} {σ : L2.St} {r : Ev} (S : Sta G O F H σ r) (h : Rep G F (.ob c l) v) {m : Str} (hm : m ∉ G.flds) : ∃ a dx fs, v = .ref a ∧ H a = some (.ins (G.cA c) dx fs) ∧ fs.lookup m = none := by
  cases h with
  | @ob _ _ a dx xs more h hl rr =>
    obtain ⟨o', e', gr⟩ := S.sub _ _ h
    obtain ⟨q, eo⟩ := gr.ins
    subst eo
    refine ⟨a, dx, _, rfl, e', ?_⟩
    cases z : (List.lookup m ((G.lay c).zip xs ++ more ++ q)) with
    | none => rfl
    | some u => exact absurd (S.wf _ _ _ _ m e' (by rw [z]; exact fun w => nomatch w)) hm
theorem onMt_of {tb : List (Nat × Beh)} {x : D} {k : Beh → Out D} {σ : L2.St} {F H : Hp} {Q : VK} (p : Pst G W OX O O1 σ F H (RD G) Q (onMt tb x k)) : ∃ c l B, x = .ob c l ∧ tb.lookup c = some B ∧ Pst G W OX O O1 σ F H (RD G) Q (k fun ds => B (.ob c l :: ds)) := by
  unfold onMt at p
  split at p
  · split at p
    · rename_i B e
      exact ⟨_, _, B, rfl, e, p⟩
    · exact p.elim
  · exact p.elim
/-- o.m(e, ..); every class's def takes the same defaults -/
theorem e_meth {o e : Expr} {es : List Expr} {m : Str} {apos pos : Pos} {pl : Sem Bool} {k : Nat} {g : M D} {h : M (List D)} {dd : List D} (tb : List (Nat × Beh)) (tk : Takes X W) (hr : Room k X.A) (hm : m ∉ G.flds) (ho : PE X o (tE G W OX O O1 g)) (ha : PA X (e :: es) (tA G W OX O1 O2 h))
    (ht : ∀ c B, tb.lookup c = some B → ∃ n f fd ps ds dvs, MtOk G X.prog X.w X.mg X.base k c m n B f fd ps ds dvs ∧ ∀ F, RepL G F dd dvs) (hx : ∀ i ∈ OX, i ∈ O2 := by decide) (hK : X.K = G.K := by rfl)
    (hst : starEach (e :: es) X.env = (false, eval e X.env) :: starEach es X.env := by rfl) (hpl : (backTo pos (starEach es X.env)).any (·.1) = false := by rfl)
    (hev : eval (.Call (.Attribute o m apos) (e :: es) [] pos) X.env = (do
      let ov ← eval o X.env
      standAt apos.atName
      let (fm, fst) ← holding [ov] (getMethod ov m pl)
      callWith pos fm fst (backTo pos (starEach (e :: es) X.env)) (backToKw pos (keywordEach [] X.env))) := by rfl) : PE X (.Call (.Attribute o m apos) (e :: es) [] pos) (tE G W OX O O2 (eMd tb dd g h)) := by
  refine ⟨fun pins s σ H Q I ⟨F, r, S, p⟩ => ?_⟩
  refine PySem.W.methodCall_KW (pl := pl) (thn (ho.run pins s σ H (fun v H1 => ∃ x F1 r1, Nx G OX O O1 σ F H σ F1 H1 r1 ∧ Rep G F1 x v ∧ Pst G W OX O1 O2 σ F1 H1 (RD G) Q (onMt tb x fun B => (h r1).bind fun ds r2 => out0 (B (ds ++ dd)) r2)) I
    (tX_bind S p fun x v F1 H1 r1 n1 rx p => ⟨x, F1, r1, n1, rx, p⟩)) fun u s1 ⟨v, H1, I1, ru, x, F1, r1, n1, rx, p⟩ => ?_) hev
  obtain ⟨c, l, B, rfl, e1, p⟩ := onMt_of p
  obtain ⟨n, f, fd, ps, ds, dvs, M, hdd⟩ := ht c B e1
  obtain ⟨a, dx, fs, rfl, ea, el⟩ := look_m n1.sta rx hm
  obtain rfl : u = Value.ref a := ru
  refine getmeth_ok I1 ea (by rw [hK]; exact M.cl) (by rw [hK]; exact M.me) el ?_
  refine PySem.W.callWith_K (first := [.ref a]) (h₀ := X.base) I.ok.mod.kin (by rw [hK]; exact M.me.kp) (thn (ha.run pos pins s1 σ H1 (fun vs H2 => ∃ zs F2 r2, Nx G OX O1 O2 σ F1 H1 σ F2 H2 r2 ∧ RepL G F2 zs vs ∧ Pst G W OX O2 O2 σ F2 H2 (RD G) Q (out0 (B (.ob c l :: (zs ++ dd))) r2)) I1
    (tX_bind n1.sta p fun zs vs F2 H2 r2 n2 rs p => ⟨zs, F2, r2, n2, rs, p⟩)) fun us s2 ⟨vs, H2, I2, rv, zs, F2, r2, n2, rs, p⟩ => ⟨I2.kIn, ?_⟩) hst hpl
  have Fk : FnOk X.prog X.w X.K X.mg X.base (L2.CX X.prog X.w) k f fd ps (spB G n [] B) := by rw [hK]; exact M.fn
  have rr := RepL.cons (rx.mono n2.stp.fz) (rs.more hdd)
  exact run_B (us := .ref a :: us) (vs := .ref a :: vs) tk Fk hr (by rw [hK]; exact M.bd) M.dv I2 (.cons rfl rv) (spB_of hx n2.sta rr (len_of M.ar rr p) p)
theorem e_meth0 {o : Expr} {m : Str} {apos pos : Pos} {pl : Sem Bool} {k : Nat} {g : M D} {dd : List D} (tb : List (Nat × Beh)) (tk : Takes X W) (hr : Room k X.A) (hm : m ∉ G.flds) (ho : PE X o (tE G W OX O O1 g))
    (ht : ∀ c B, tb.lookup c = some B → ∃ n f fd ps ds dvs, MtOk G X.prog X.w X.mg X.base k c m n B f fd ps ds dvs ∧ ∀ F, RepL G F dd dvs) (hx : ∀ i ∈ OX, i ∈ O1 := by decide) (hK : X.K = G.K := by rfl)
    (hev : eval (.Call (.Attribute o m apos) [] [] pos) X.env = (do
      let ov ← eval o X.env
      standAt apos.atName
      let (fm, fst) ← holding [ov] (getMethod ov m pl)
      callWith pos fm fst (backTo pos (starEach [] X.env)) (backToKw pos (keywordEach [] X.env))) := by rfl) : PE X (.Call (.Attribute o m apos) [] [] pos) (tE G W OX O O1 (eMd tb dd g aNil)) := by
  refine ⟨fun pins s σ H Q I ⟨F, r, S, p⟩ => ?_⟩
  refine PySem.W.methodCall_KW (pl := pl) (thn (ho.run pins s σ H (fun v H1 => ∃ x F1 r1, Nx G OX O O1 σ F H σ F1 H1 r1 ∧ Rep G F1 x v ∧ Pst G W OX O1 O1 σ F1 H1 (RD G) Q (onMt tb x fun B => out0 (B dd) r1)) I
    (tX_bind S p fun x v F1 H1 r1 n1 rx p => ⟨x, F1, r1, n1, rx, p⟩)) fun u s1 ⟨v, H1, I1, ru, x, F1, r1, n1, rx, p⟩ => ?_) hev
  obtain ⟨c, l, B, rfl, e1, p⟩ := onMt_of p
  obtain ⟨n, f, fd, ps, ds, dvs, M, hdd⟩ := ht c B e1
  obtain ⟨a, dx, fs, rfl, ea, el⟩ := look_m n1.sta rx hm
  obtain rfl : u = Value.ref a := ru
  refine getmeth_ok I1 ea (by rw [hK]; exact M.cl) (by rw [hK]; exact M.me) el ?_
  have Fk : FnOk X.prog X.w X.K X.mg X.base (L2.CX X.prog X.w) k f fd ps (spB G n [] B) := by rw [hK]; exact M.fn
  have rr := RepL.cons rx (hdd F1)
  exact PySem.W.callWith_K0 (first := [.ref a]) I1.kIn (by rw [hK]; exact M.me.kp) (run_B (us := [.ref a]) (vs := [.ref a]) tk Fk hr (by rw [hK]; exact M.bd) M.dv I1 (.cons rfl .nil) (spB_of hx n1.sta rr (len_of M.ar rr p) p))
/-- o.m(e, .., k = v, ..) of one class -/
theorem e_methK {o e : Expr} {es : List Expr} {kws : List Keyword} {m : Str} {apos pos : Pos} {pl : Sem Bool} {k n q : Nat} {ks : List Str} {g : M D} {h h2 : M (List D)} {dd : List D} {od : List Nat} (tb : List (Nat × Beh)) (tk : Takes X W) (hr : Room k X.A) (hm : m ∉ G.flds) (ho : PE X o (tE G W OX O O1 g)) (ha : PA X (e :: es) (tA G W OX O1 O2 h)) (hkw : PK X kws (tA G W OX O2 O3 h2))
    (ht : ∀ c B, tb.lookup c = some B → ∃ a f fd ps ds ds' dvs dvs', MtOk G X.prog X.w X.mg X.base k c m a B f fd ps ds' dvs' ∧ BindK G.K fd ps (n + 1) ks (0 :: od.map (· + 1)) ds ∧ Vals dvs ds ∧ ∀ F, RepL G F dd dvs) (hq : ks.length = q := by rfl) (hx : ∀ i ∈ OX, i ∈ O3 := by decide) (hK : X.K = G.K := by rfl)
    (hall : (backToKw pos (keywordEach kws X.env)).all (·.1.isSome) = true := by rfl) (hks : (backToKw pos (keywordEach kws X.env)).filterMap (·.1) = ks := by rfl) (he : starEach (e :: es) X.env = (false, eval e X.env) :: starEach es X.env := by rfl)
    (hpl : ((backTo pos (starEach (e :: es) X.env)).any (·.1) || (backToKw pos (keywordEach kws X.env)).any (·.1.isNone)) = false := by rfl)
    (hev : eval (.Call (.Attribute o m apos) (e :: es) kws pos) X.env = (do
      let ov ← eval o X.env
      standAt apos.atName
      let (fm, fst) ← holding [ov] (getMethod ov m pl)
      callWith pos fm fst (backTo pos (starEach (e :: es) X.env)) (backToKw pos (keywordEach kws X.env))) := by rfl) : PE X (.Call (.Attribute o m apos) (e :: es) kws pos) (tE G W OX O O3 (eMk tb n q od dd g h h2)) := by
  refine ⟨fun pins s σ H Q I ⟨F, r, S, p⟩ => ?_⟩
  refine PySem.W.methodCall_KW (pl := pl) (thn (ho.run pins s σ H (fun v H1 => ∃ x F1 r1, Nx G OX O O1 σ F H σ F1 H1 r1 ∧ Rep G F1 x v ∧ Pst G W OX O1 O3 σ F1 H1 (RD G) Q (onMt tb x fun B => (h r1).bind fun ds r2 => (h2 r2).bind fun zs r3 => if ds.length = n ∧ zs.length = q then out0 (B (permL od (ds ++ zs ++ dd))) r3 else .no)) I
    (tX_bind S p fun x v F1 H1 r1 n1 rx p => ⟨x, F1, r1, n1, rx, p⟩)) fun u s1 ⟨v, H1, I1, ru, x, F1, r1, n1, rx, p⟩ => ?_) hev
  obtain ⟨c, l, B, rfl, e1, p⟩ := onMt_of p
  obtain ⟨ar, f, fd, ps, ds, ds', dvs, dvs', M, hb, hd, hdd⟩ := ht c B e1
  obtain ⟨a, dx, fs, rfl, ea, el⟩ := look_m n1.sta rx hm
  obtain rfl : u = Value.ref a := ru
  refine getmeth_ok I1 ea (by rw [hK]; exact M.cl) (by rw [hK]; exact M.me) el ?_
  refine cw1 (first := [.ref a]) (k := fun ds zs r2 => if ds.length = n ∧ zs.length = q then out0 (B (.ob c l :: permL od (ds ++ zs ++ dd))) r2 else .no) (by rw [hK]; exact M.me.kp) ha hkw I1 n1.sta p (fun ds' zs vs ys us ws s2 F2 H2 r2 I2 n2 rs rz rv rw' p => ?_) hall hks he hpl
  split at p
  · rename_i hl
    obtain ⟨h1, h2⟩ := hl
    have Fk : FnOk X.prog X.w X.K X.mg X.base (L2.CX X.prog X.w) k f fd ps (spB G ar [] B) := by rw [hK]; exact M.fn
    have rp := RepL.cons (rx.mono n2.stp.fz) (((rs.app rz).app (hdd F2)).perm od)
    have bt : BindK X.K fd ps (n + 1) ks (0 :: od.map (· + 1)) ds := by rw [hK]; exact hb
    have q2 := bt s2 (.ref a :: us) ws I2.kIn (by rw [List.length_cons, vlen rv, ← rs.length, h1]) (by rw [vlen rw', ← rz.length, h2, hq])
    rw [List.cons_append, List.cons_append, permL_cons] at q2
    exact run_Bk tk Fk hr q2 I2 (.cons (show L2.RelV (V.ref a) (Value.ref a) from rfl) (Vals.perm ((rv.append rw').append hd) od)) (spB_of hx n2.sta rp (len_of M.ar rp p) p)
  · exact p.elim

/-! ### static methods -/
structure StOk (G : Gm) (P : Program) (w : World) (mg : Str → Option Value) (base : Heap) (k : Nat) (x : Str) (C : Addr) (m : Str) (n : Nat) (B : Beh) (f : Addr) (fd : FuncData) (ps : List Str) : Prop where
  at_ : mg x = some (.ref C)
  rd : PySem.W.readsIn G.K C (.type "type") = true
  ga : PySem.W.specialIn G.K (.ref C) "__getattribute__" = some (some (.builtin "type.__getattribute__"))
  fc : ∃ p rest, PySem.W.findCls G.K (.ref C) (.type "type") m = some (.get (.builtin "staticmethod.__get__") (.ref p) .none (.ref C)) ∧ PySem.W.recIn G.K p "staticmethod" = some (.ref f :: rest)
  kp : PySem.W.keepIn G.K (.ref f) = true
  fn : FnB P w G mg base k f fd ps n [] B
  ar : ∀ ds, ds.length ≠ n → B ds = .no
theorem stat_get {A : Around} {E : Value → Shared → Prop} {pins : List (Addr × Obj)} {s : Shared} {σ : L2.St} {H : Hp} {k n : Nat} {x m : Str} {C f : Addr} {fd : FuncData} {ps : List Str} {B : Beh} {pl : Sem Bool} {Q : Value × List Value → Shared → Prop} (st : StOk G X.prog X.w X.mg X.base k x C m n B f fd ps) (hK : X.K = G.K) (I : Inv X pins σ H s)
    (h : ∀ s', Inv X pins σ H s' → Q (.ref f, []) s') : wpAny (model X.prog X.w) A (getMethod (.ref C) m pl) Q E s := by
  obtain ⟨p, rest, h1, h2⟩ := st.fc
  refine PySem.W.method_cls I.kIn (by rw [hK]; exact st.ga) ?_
  refine PySem.W.cls_bind I.kIn (by rw [hK]; exact st.rd) (by rw [hK]; exact h1) ?_
  refine wpAny_call (PySem.W.sm_get (s := { s with toks := s.toks + 1 }) I.kIn (by rw [hK]; exact h2) (PySem.W.handed_on rfl ?_))
  exact h _ (I.tok _)
theorem e_stat {x m : Str} {xpos apos pos : Pos} {e : Expr} {es : List Expr} {k n : Nat} {B : Beh} {C f : Addr} {fd : FuncData} {ps : List Str} {g : M (List D)} {ds : List Value} {dvs : List V} {dd : List D} {pl : Sem Bool} (tk : Takes X W) (hr : Room k X.A) (st : StOk G X.prog X.w X.mg X.base k x C m n B f fd ps)
    (hb : Binds G.K fd ps ds) (hd : Vals dvs ds) (hdd : ∀ F, RepL G F dd dvs) (ha : PA X (e :: es) (tA G W OX O O1 g)) (hx : ∀ i ∈ OX, i ∈ O1 := by decide) (hg : Gl X x := by rfl) (hK : X.K = G.K := by rfl) (hdb : (x == ("__debug__" : Str)) = false := by decide)
    (he : starEach (e :: es) X.env = (false, eval e X.env) :: starEach es X.env := by rfl) (hpl : (backTo pos (starEach es X.env)).any (·.1) = false := by rfl)
    (hev : eval (.Call (.Attribute (.Name x xpos) m apos) (e :: es) [] pos) X.env = (do
      let ov ← eval (.Name x xpos) X.env
      standAt apos.atName
      let (fm, fst) ← holding [ov] (getMethod ov m pl)
      callWith pos fm fst (backTo pos (starEach (e :: es) X.env)) (backToKw pos (keywordEach [] X.env))) := by rfl) : PE X (.Call (.Attribute (.Name x xpos) m apos) (e :: es) [] pos) (tE G W OX O O1 (eCd B dd g)) := by
  refine ⟨fun pins s σ H Q I ⟨F, r, S, p⟩ => ?_⟩
  refine PySem.W.methodCall_KW (pl := pl) (ld_glob I hg st.at_ ?_ hdb) hev
  refine stat_get st hK I fun s1 I1 => ?_
  refine PySem.W.callWith_K (first := []) (h₀ := X.base) I.ok.mod.kin (by rw [hK]; exact st.kp) (thn (ha.run pos pins s1 σ H (fun vs H1 => ∃ ds F1 r1, Sta G O1 F1 H1 σ r1 ∧ RepL G F1 ds vs ∧ Pst G W OX O1 O1 σ F1 H1 (RD G) Q (out0 (B (ds ++ dd)) r1)) I1
    (tX_bind S p fun ds vs F1 H1 r1 n1 rs p => ⟨ds, F1, r1, n1.sta, rs, p⟩)) fun us s1 ⟨vs, H1, I1, rv, ds, F1, r1, S1, rs, p⟩ => ⟨I1.kIn, ?_⟩) he hpl
  have Fk : FnOk X.prog X.w X.K X.mg X.base (L2.CX X.prog X.w) k f fd ps (spB G n [] B) := by rw [hK]; exact st.fn
  exact run_B tk Fk hr (by rw [hK]; exact hb) hd I1 rv (spB_of hx S1 (rs.more hdd) (len_of st.ar (rs.more hdd) p) p)
end
end Z

/-! Targets, iterables, loops, comprehensions. -/
namespace Z
open PySem PySem.Spec PyProof.Rows L2

/-! ### targets -/
abbrev Tg := D → Ev → Option Ev
@[simp] def gN (i : Nat) : Tg := fun d r => some (r.set i (some d))
def gTs : List Tg → List D → Ev → Option Ev
  | [], [], r => some r
  | g :: gs, d :: l, r => (g d r).bind (gTs gs l)
  | _, _, _ => none
@[simp] def gT (gs : List Tg) : Tg := fun d r => (itemsOf d).bind fun l => gTs gs l r
/-- the slots of vs alone change -/
def tG (G : Gm) (OX vs O O' : List Nat) (g : Tg) : TG := fun v σ H Q => ∃ F r d r', Sta G O F H σ r ∧ Rep G F d v ∧ g d r = some r' ∧ ∀ σ', Nx G OX O O' σ F H σ' F H r' → wipe σ' vs = wipe σ vs → Q σ' H
def tGs (G : Gm) (OX vs O O' : List Nat) (gs : List Tg) : TGs := fun xs σ H Q => ∃ F r l r', Sta G O F H σ r ∧ RepL G F l xs ∧ gTs gs l r = some r' ∧ ∀ σ', Nx G OX O O' σ F H σ' F H r' → wipe σ' vs = wipe σ vs → Q σ' H
theorem wipe_set {σ : L2.St} {i : Nat} {x : Option V} : ∀ {vs : List Nat}, i ∈ vs → wipe (σ.set i x) vs = wipe σ vs
  | v :: vs, h => by
    unfold wipe
    by_cases m : i ∈ vs
    · rw [wipe_set m]
    · have e : i = v := by
        rcases List.mem_cons.mp h with z | z
        · exact z
        · exact absurd z m
      subst e
      have key : ∀ (l : List Nat) (σ : L2.St), i ∉ l → wipe (σ.set i x) l = (wipe σ l).set i x := by
        intro l
        induction l with
        | nil => exact fun _ _ => rfl
        | cons a l ih =>
          intro σ hn
          have h1 : i ≠ a := fun z => hn (by rw [z]; exact List.mem_cons_self)
          unfold wipe
          rw [ih σ fun z => hn (List.mem_cons_of_mem _ z), List.set_comm _ _ h1]
      rw [key vs σ m, List.set_set]
section
variable {G : Gm} {X : Cx} {W : WX} {OX OL vs O O1 O2 O3 : List Nat}
theorem _root_.L2.PG.mo {tg : Expr} {t t' : TG} (h : PG X tg t) (i : ∀ v σ H Q, t' v σ H Q → t v σ H Q) : PG X tg t' := ⟨fun pins s σ H v u Q I r q => h.run pins s σ H v u Q I r (i v σ H Q q)⟩
theorem _root_.L2.PGs.mo {tg : List Expr} {t t' : TGs} (h : PGs X tg t) (i : ∀ v σ H Q, t' v σ H Q → t v σ H Q) : PGs X tg t' := ⟨fun pins s σ H v u Q I r q => h.run pins s σ H v u Q I r (i v σ H Q q)⟩
theorem nx_set {σ : L2.St} {F H : Hp} {r : Ev} {d : D} {v : V} (i : Nat) (S : Sta G O F H σ r) (h : Rep G F d v) (hx : i ∉ OX) : Nx G OX O (O.filter (· != i)) σ F H (σ.set i (some v)) F H (r.set i (some d)) := by
  refine ⟨S.set i h, .rfl', fun j hj => ?_, fun a m => ?_⟩
  · exact List.getElem?_set_ne (fun z : i = j => hx (by rw [z]; exact hj))
  · obtain ⟨j, hj, e⟩ := m
    obtain ⟨h1, h2⟩ := List.mem_filter.mp hj
    have q : i ≠ j := fun z => by simp [z] at h2
    rw [List.getElem?_set_ne q] at e
    exact .inl ⟨j, h1, e⟩
theorem g_name {x : Str} {pos : Pos} (i : Nat) (hx : i ∉ OX := by decide) (hv : i ∈ vs := by decide) (hN : X.N.Nodup := by first | assumption | decide +kernel) (hi : X.N[i]? = some x := by rfl) (hl : Loc X.env.scope x := by first | exact Or.inl rfl | exact Or.inr rfl)
    (hf : X.fn x = true ∨ X.env.scope.names.lookup x = some .local := by first | exact .inl rfl | exact .inr rfl | assumption) : PG X (.Name x pos) (tG G OX vs O (O.filter (· != i)) (gN i)) :=
  (pg_name hN hi hl hf).mo fun v σ H Q ⟨F, r, d, r', S, rd, e, q⟩ => by
    cases e
    exact q _ (nx_set i S rd hx) (wipe_set hv)
theorem gs_nil : PGs X [] (tGs G OX vs O O []) := pgs_nil.mo fun xs σ H Q ⟨F, r, l, r', S, rl, e, q⟩ => by
  cases rl with
  | nil =>
    cases e
    exact ⟨rfl, q σ (Nx.rfl' S) rfl⟩
  | cons _ _ => cases e
theorem gs_cons {e : Expr} {es : List Expr} {g : Tg} {gs : List Tg} (h1 : PG X e (tG G OX vs O O1 g)) (h2 : PGs X es (tGs G OX vs O1 O2 gs)) (hs : (assignEach (e :: es) X.env).map (·.2) = assign e X.env :: (assignEach es X.env).map (·.2) := by rfl) :
    PGs X (e :: es) (tGs G OX vs O O2 (g :: gs)) :=
  (pgs_cons h1 h2 hs).mo fun xs σ H Q ⟨F, r, l, r', S, rl, e, q⟩ => by
    cases rl with
    | nil => cases e
    | @cons d l v xs hd ht =>
      rw [gTs] at e
      obtain ⟨r1, e1, e2⟩ := Option.bind_eq_some_iff.mp e
      exact ⟨v, xs, rfl, F, r, d, r1, S, hd, e1, fun σ1 n1 w1 => ⟨F, r1, l, r', n1.sta, ht, e2, fun σ2 n2 w2 => q σ2 (n1.trans n2) (w2.trans w1)⟩⟩
theorem g_tup {es : List Expr} {k : Nat} {pos : Pos} {gs : List Tg} (h : PGs X es (tGs G OX vs O O1 gs)) (hc : X.calm = true := by rfl) (hn : (assignEach es X.env).length = gs.length := by rfl) (hst : (assignEach es X.env).findIdx? (·.1) = none := by rfl) (hK : X.K = G.K := by rfl) :
    PG X (.Tuple es k pos) (tG G OX vs O O1 (gT gs)) := by
  refine ⟨fun pins s σ H v u Q I r q => ?_⟩
  obtain ⟨F, rr, d, r', S, rd, e, q⟩ := q
  obtain ⟨l, e1, e2⟩ := Option.bind_eq_some_iff.mp e
  have hl : ∀ (gs : List Tg) (l : List D) (r r' : Ev), gTs gs l r = some r' → l.length = gs.length := by
    intro gs
    induction gs with
    | nil =>
      intro l r r' e
      cases l with
      | nil => rfl
      | cons => cases e
    | cons g gs ih =>
      intro l r r' e
      cases l with
      | nil => cases e
      | cons d l =>
        rw [gTs] at e
        obtain ⟨r1, _, e2⟩ := Option.bind_eq_some_iff.mp e
        rw [List.length_cons, List.length_cons, ih l r1 r' e2]
  obtain ⟨a, xs, rfl, hq, rl⟩ := rd.items S.sub e1
  have hlen : xs.length = gs.length := by rw [← rl.length]; exact hl gs l rr r' e2
  rcases hq with hq | hq
  · exact (pg_lst hc h hn hst).run pins s σ H _ u Q I r ⟨a, xs, rfl, by rw [hK]; exact hq, hlen, F, rr, l, r', S, rl, e2, q⟩
  · exact (pg_tup hc h hn hst).run pins s σ H _ u Q I r ⟨a, xs, rfl, by rw [hK]; exact hq, hlen, F, rr, l, r', S, rl, e2, q⟩

/-! ### what is walked -/
def YD (G : Gm) (F : Hp) (l : List D) : Nat → Hp → V → Hp → Prop := fun i H x H' => ∃ d, l[i]? = some d ∧ ((H' = H ∧ Rep G F d x) ∨ ∃ T xs ds, d = .tup ds ∧ x = .ref T ∧ H T = none ∧ H' = upd H T (.tup xs) ∧ RepL G F ds xs)
def RI (G : Gm) : Hp → Hp → List D → It → Prop := fun F _ l J => Walk J l.length (fun H => Sub F H) (YD G F l)
abbrev iIt (G : Gm) (W : WX) (OX O O' : List Nat) (f : M (List D)) : TI := fun σ H R => tX G W OX O O' (RI G) f σ H R
theorem _root_.L2.PI.mo {tg it : Expr} {t t' : TI} (h : PI X tg it t) (i : ∀ σ H Q, t' σ H Q → t σ H Q) : PI X tg it t' := ⟨fun pins s σ H Q I q => h.run pins s σ H Q I (i σ H Q q)⟩
@[simp] def itL (f : M D) : M (List D) := fun r => (f r).bind fun x r1 => match itemsOf x with
  | some l => .ok l r1
  | none => .no
def rng (a b : Int) : List D := (List.range (b - a).toNat).map fun i => .int (a + (i : Nat))
def pRng : List D → Option (List D)
  | [.int b] => if -(2 ^ 62) ≤ b ∧ b < 2 ^ 62 then some (rng 0 b) else none
  | _ => none
def pRng2 : List D → Option (List D)
  | [.int a, .int b] => if -(2 ^ 62) ≤ a ∧ a < 2 ^ 62 ∧ -(2 ^ 62) ≤ b ∧ b < 2 ^ 62 then some (rng a b) else none
  | _ => none
def enuD (l : List D) : List D := l.zipIdx.map fun p => .tup [.int (p.2 : Nat), p.1]
def pEnu : List D → Option (List D)
  | [.lst l] => some (enuD l)
  | [.kl l] => some (enuD l)
  | _ => none
def zipD (l m : List D) : List D := (l.zip m).map fun p => .tup [p.1, p.2]
def isTupD : D → Bool
  | .tup _ => true
  | _ => false
def pZip : List D → Option (List D)
  | [x, y] => (itemsOf x).bind fun l => (itemsOf y).bind fun m => if isTupD x = isTupD y then some (zipD l m) else none
  | _ => none
@[simp] def itN (p : List D → Option (List D)) (f : M (List D)) : M (List D) := fun r => (f r).bind fun ds r1 => match p ds with
  | some l => .ok l r1
  | none => .no
theorem Rep.itemsF {F : Hp} {x : D} {v : V} {l : List D} (h : Rep G F x v) (e : itemsOf x = some l) : ∃ a xs, v = .ref a ∧ (SqL G.K F a xs ∨ SqT G.K F a xs) ∧ RepL G F l xs := by
  cases h with
  | tup h r => cases e; exact ⟨_, _, rfl, .inr h, r⟩
  | lst h r => cases e; exact ⟨_, _, rfl, .inl (.inl (.inl h)), r⟩
  | kl h r => cases e; exact ⟨_, _, rfl, .inl h, r⟩
  | _ => cases e
theorem walk_rep {F : Hp} {l : List D} {xs : List V} {J : It} {P : Hp → Prop} (rl : RepL G F l xs) (w : Walk J xs.length P (YAt xs)) (hp : ∀ H, Sub F H → P H) : Walk J l.length (fun H => Sub F H) (YD G F l) := by
  rw [rl.length]
  refine w.mono hp fun i H x H' hi hs y => ?_
  obtain ⟨d, e, rd⟩ := rl.get' y.2
  exact ⟨d, e, .inl ⟨y.1, rd⟩⟩
theorem i_seq {tg e : Expr} {f : M D} (h : PE X e (tE G W OX O O1 f)) (hK : X.K = G.K := by rfl) : PI X tg e (iIt G W OX O O1 (itL f)) := by
  refine ⟨fun pins s σ H R I ⟨F, r, S, p⟩ => ?_⟩
  refine thn (h.run pins s σ H (fun v H1 => ∃ x F1 r1 l, Nx G OX O O1 σ F H σ F1 H1 r1 ∧ Rep G F1 x v ∧ itemsOf x = some l ∧ Pst G W OX O1 O1 σ F1 H1 (RI G) R (.ok l r1)) I (tX_bind S p fun x v F1 H1 r1 n1 rx p => ?_)) fun u s1 ⟨v, H1, I1, ru, x, F1, r1, l, n1, rx, ex, p⟩ => ?_
  · revert p
    split
    · rename_i l e
      exact fun p => ⟨x, F1, r1, l, n1, rx, e, p⟩
    · exact fun p => p.elim
  · obtain ⟨a, xs, rfl, hq, rl⟩ := rx.itemsF ex
    cases ru
    have young : ∀ b, b ∈ [s1.heap.objs.size] → FpOk X pins H1 b := fun b hb => by
      rw [List.mem_singleton.mp hb]
      exact I1.fpOk (Nat.le_refl _) (I1.hok.fresh (Nat.le_refl _))
    have push : ∀ o : Obj, Inv X pins σ H1 { s1 with heap := s1.heap.push o } := fun o => I1.kept (t' := s1.toks) fun c u ec => Heap.get?_push_of_some _ ec
    have done : ∀ {J : It}, Walk J l.length (fun H => Sub F1 H) (YD G F1 l) → R J H1 := fun w => p _ F1 H1 (Nx.rfl' n1.sta) w
    rcases hq with hq | hq
    · obtain ⟨its, rv, pl, hz⟩ := I1.list (by rw [hK]; exact n1.sta.sub.sqL hq)
      exact wpAny_pyIter_list pl.isList ⟨_, [s1.heap.objs.size], _, Itl X.K a, H1, rfl, push _, turn_list a _, ⟨_, Heap.get?_push_size _ rfl, rfl, rfl⟩, young, done (walk_rep rl walk_list fun H' sb => by rw [hK]; exact sb.sqL hq)⟩
    · obtain ⟨its, rv, pl, hz⟩ := I1.tuple (by rw [hK]; exact n1.sta.sub.sqT hq)
      exact wpAny_pyIter_tuple (show s1.heap.IsTuple a its.toArray from pl) ⟨_, [s1.heap.objs.size], _, Itt X.K a, H1, rfl, push _, turn_tuple a _, ⟨_, Heap.get?_push_size _ rfl, rfl, rfl⟩, young, done (walk_rep rl walk_tup fun H' sb => by rw [hK]; exact sb.sqT hq)⟩
theorem itN_of {p : List D → Option (List D)} {ds : List D} {r : Ev} {σ : L2.St} {F H : Hp} {R : It → Hp → Prop} (q : Pst G W OX O O1 σ F H (RI G) R (match p ds with
  | some l => .ok l r
  | none => .no)) : ∃ l, p ds = some l ∧ Pst G W OX O O1 σ F H (RI G) R (.ok l r) := by
  revert q
  cases e : p ds with
  | none => exact fun q => q.elim
  | some l => exact fun q => ⟨l, rfl, q⟩
theorem walk_rng {F : Hp} {a b : Int} : Walk (Itr a (b - a).toNat) (rng a b).length (fun H => Sub F H) (YD G F (rng a b)) := by
  have e0 : (rng a b).length = (b - a).toNat := by unfold rng; simp
  rw [e0]
  refine walk_range.mono (fun _ _ => trivial) fun i H x H' hi _ y => ⟨.int (a + (i : Nat)), ?_, .inl ⟨y.1, ?_⟩⟩
  · unfold rng
    rw [List.getElem?_map, List.getElem?_range hi]
    rfl
  · rw [y.2]
    exact .int
theorem i_rng1 {tg a : Expr} {p pos : Pos} {f : M (List D)} (ha : PA X [a] (tA G W OX O O1 f)) (hm : X.mg "range" = none := by assumption) (hg : Gl X "range" := by rfl) (hs : starEach [a] X.env = [(false, eval a X.env)] := by rfl) : PI X tg (.Call (.Name "range" p) [a] [] pos) (iIt G W OX O O1 (itN pRng f)) :=
  (pi_range1 hg hm ha hs).mo fun σ H R ⟨F, r, S, q⟩ => tX_bind S q fun ds vs F1 H1 r1 n1 rs q => by
    obtain ⟨l, e, q⟩ := itN_of q
    unfold pRng at e
    split at e
    · split at e
      · rename_i b hb
        cases e
        cases rs with
        | cons r1 rr =>
          cases rr
          cases r1
          refine ⟨_, rfl, hb.1, hb.2, q _ F1 H1 (Nx.rfl' n1.sta) ?_⟩
          have w := walk_rng (G := G) (F := F1) (a := 0) (b := b)
          rw [Int.sub_zero] at w
          exact w
      · cases e
    · cases e
theorem i_rng2 {tg a b : Expr} {p pos : Pos} {f : M (List D)} (ha : PA X [a, b] (tA G W OX O O1 f)) (hm : X.mg "range" = none := by assumption) (hg : Gl X "range" := by rfl) (hs : starEach [a, b] X.env = [(false, eval a X.env), (false, eval b X.env)] := by rfl) (hs2 : starEach [b] X.env = [(false, eval b X.env)] := by rfl) :
    PI X tg (.Call (.Name "range" p) [a, b] [] pos) (iIt G W OX O O1 (itN pRng2 f)) :=
  (pi_range2 hg hm ha hs hs2).mo fun σ H R ⟨F, r, S, q⟩ => tX_bind S q fun ds vs F1 H1 r1 n1 rs q => by
    obtain ⟨l, e, q⟩ := itN_of q
    unfold pRng2 at e
    split at e
    · split at e
      · rename_i a b hb
        cases e
        cases rs with
        | cons r1 rr =>
          cases rr with
          | cons r2 rr =>
            cases rr
            cases r1
            cases r2
            exact ⟨_, _, rfl, hb, q _ F1 H1 (Nx.rfl' n1.sta) walk_rng⟩
      · cases e
    · cases e
theorem walk_enu {F : Hp} {l : List D} {a : Addr} {xs : List V} {K : PySem.W.Frag} (rl : RepL G F l xs) (hp : ∀ H, Sub F H → SqL K H a xs) : Walk (Ite K a) (enuD l).length (fun H => Sub F H) (YD G F (enuD l)) := by
  have e0 : (enuD l).length = xs.length := by unfold enuD; rw [← rl.length]; simp
  rw [e0]
  refine walk_enum.mono hp fun i H x H' hi _ y => ?_
  obtain ⟨T, x1, y1, h1, h2, h3, h4, h5⟩ := y
  cases h4
  obtain ⟨d, e, rd⟩ := rl.get' h5
  refine ⟨.tup [.int (i : Nat), d], ?_, .inr ⟨T, _, [.int (i : Nat), d], rfl, h1, h2, h3, .cons .int (.cons rd .nil)⟩⟩
  unfold enuD
  rw [List.getElem?_map, List.getElem?_zipIdx, e]
  simp
theorem i_enu {e : Expr} {p pos tpos : Pos} {elts : List Expr} {kk : Nat} {f : M (List D)} (ha : PA X [e] (tA G W OX O O1 f)) (hm : X.mg "enumerate" = none := by assumption) (hg : Gl X "enumerate" := by rfl) (hs : starEach [e] X.env = [(false, eval e X.env)] := by rfl) (hK : X.K = G.K := by rfl) :
    PI X (.Tuple elts kk tpos) (.Call (.Name "enumerate" p) [e] [] pos) (iIt G W OX O O1 (itN pEnu f)) :=
  (pi_enum hg hm ha hs).mo fun σ H R ⟨F, r, S, q⟩ => tX_bind S q fun ds vs F1 H1 r1 n1 rs q => by
    obtain ⟨l, e, q⟩ := itN_of q
    rw [hK]
    have key : ∀ (m : List D) (x : D) (v : V), Rep G F1 x v → itemsOf x = some m → (∀ q, x ≠ .tup q) → ∃ a xs, v = .ref a ∧ RepL G F1 m xs ∧ ∀ H, Sub F1 H → SqL G.K H a xs := fun m x v rx e n => by
      cases rx with
      | tup h r => exact absurd rfl (n _)
      | lst h r => cases e; exact ⟨_, _, rfl, r, fun H sb => sb.sqL (.inl (.inl h))⟩
      | kl h r => cases e; exact ⟨_, _, rfl, r, fun H sb => sb.sqL h⟩
      | _ => cases e
    unfold pEnu at e
    split at e
    · cases e
      cases rs with
      | cons r1 rr =>
        cases rr
        obtain ⟨a, xs, rfl, rl, hh⟩ := key _ _ _ r1 rfl (fun _ z => nomatch z)
        exact ⟨a, xs, rfl, hh H1 n1.sta.sub, q _ F1 H1 (Nx.rfl' n1.sta) (walk_enu rl hh)⟩
    · cases e
      cases rs with
      | cons r1 rr =>
        cases rr
        obtain ⟨a, xs, rfl, rl, hh⟩ := key _ _ _ r1 rfl (fun _ z => nomatch z)
        exact ⟨a, xs, rfl, hh H1 n1.sta.sub, q _ F1 H1 (Nx.rfl' n1.sta) (walk_enu rl hh)⟩
    · cases e
theorem zip_walk {F : Hp} {l m : List D} {xs ys : List V} {J : It} {P : Hp → Prop} (rl : RepL G F l xs) (rm : RepL G F m ys) (w : Walk J (min xs.length ys.length) P (YPair (fun i => xs[i]?) (fun i => ys[i]?))) (hp : ∀ H, Sub F H → P H) : Walk J (zipD l m).length (fun H => Sub F H) (YD G F (zipD l m)) := by
  have e0 : (zipD l m).length = min xs.length ys.length := by unfold zipD; rw [← rl.length, ← rm.length]; simp
  rw [e0]
  refine w.mono hp fun i H x H' hi _ y => ?_
  obtain ⟨T, x1, y1, h1, h2, h3, h4, h5⟩ := y
  obtain ⟨d, e, rd⟩ := rl.get' h4
  obtain ⟨d', e', rd'⟩ := rm.get' h5
  refine ⟨.tup [d, d'], ?_, .inr ⟨T, _, [d, d'], rfl, h1, h2, h3, .cons rd (.cons rd' .nil)⟩⟩
  unfold zipD
  rw [List.getElem?_map, show (l.zip m)[i]? = some (d, d') from by rw [List.getElem?_zip_eq_some]; exact ⟨e, e'⟩]
  rfl
theorem walk_zipT {K : PySem.W.Frag} {a b : Addr} {xs ys : List V} : Walk (RZ.ItzT K a b) (min xs.length ys.length) (fun H => SqT K H a xs ∧ SqT K H b ys) (YPair (fun i => xs[i]?) (fun i => ys[i]?)) := by
  refine ⟨fun i H hi q => ?_, fun H q => ⟨xs, ys, q.1, q.2, by omega⟩, fun i H v H' hi q y => ?_⟩
  · have h1 : i < xs.length := Nat.lt_of_lt_of_le hi (Nat.min_le_left _ _)
    have h2 : i < ys.length := Nat.lt_of_lt_of_le hi (Nat.min_le_right _ _)
    exact ⟨xs, ys, _, _, q.1, q.2, List.getElem?_eq_getElem h1, List.getElem?_eq_getElem h2⟩
  · obtain ⟨T, x, z, e1, e2, e3, e4, e5⟩ := y
    exact ⟨T, x, z, e1, e2, e3, e4 xs q.1, e5 ys q.2⟩
theorem i_zip {e e2 : Expr} {p pos tpos : Pos} {elts : List Expr} {kk : Nat} {f : M (List D)} (ha : PA X [e, e2] (tA G W OX O O1 f)) (hm : X.mg "zip" = none := by assumption) (hg : Gl X "zip" := by rfl) (hs : starEach [e, e2] X.env = (false, eval e X.env) :: starEach [e2] X.env := by rfl) (hpl : (backTo pos (starEach [e2] X.env)).any (·.1) = false := by rfl) (hK : X.K = G.K := by rfl) :
    PI X (.Tuple elts kk tpos) (.Call (.Name "zip" p) [e, e2] [] pos) (iIt G W OX O O1 (itN pZip f)) :=
  (RZ.pi_zipA hg hm ha hs hpl).mo fun σ H R ⟨F, r, S, q⟩ => tX_bind S q fun ds vs F1 H1 r1 n1 rs q => by
    obtain ⟨l, e, q⟩ := itN_of q
    rw [hK]
    have go : ∀ {J : It}, Walk J l.length (fun H => Sub F1 H) (YD G F1 l) → R J H1 := fun w => q _ F1 H1 (Nx.rfl' n1.sta) w
    unfold pZip at e
    split at e
    · rename_i x y
      obtain ⟨l1, e1, e⟩ := Option.bind_eq_some_iff.mp e
      obtain ⟨l2, e2, e⟩ := Option.bind_eq_some_iff.mp e
      split at e
      · rename_i ht
        cases e
        cases rs with
        | cons rx rr =>
          cases rr with
          | cons ry rr =>
            cases rr
            have sb := n1.sta.sub
            by_cases hx : isTupD x = true
            · cases x <;> simp [isTupD] at hx
              rw [show isTupD (.tup _) = true from rfl] at ht
              cases y <;> simp [isTupD] at ht
              cases e1
              cases e2
              cases rx with
              | tup hx rx =>
                cases ry with
                | tup hy ry =>
                  exact ⟨_, _, _, _, rfl, .inr ⟨sb.sqT hx, sb.sqT hy, go (zip_walk rx ry walk_zipT fun H' s => ⟨s.sqT hx, s.sqT hy⟩)⟩⟩
            · have hy : isTupD y = false := by
                rw [← ht]
                simpa using hx
              have key : ∀ (m : List D) (x : D) (v : V), Rep G F1 x v → itemsOf x = some m → isTupD x = false → ∃ a xs, v = .ref a ∧ RepL G F1 m xs ∧ ∀ H, Sub F1 H → SqL G.K H a xs := fun m x v rx e n => by
                cases rx with
                | tup h r => cases n
                | lst h r => cases e; exact ⟨_, _, rfl, r, fun H sb => sb.sqL (.inl (.inl h))⟩
                | kl h r => cases e; exact ⟨_, _, rfl, r, fun H sb => sb.sqL h⟩
                | _ => cases e
              obtain ⟨a, xs, rfl, rl, h1⟩ := key _ _ _ rx e1 (by simpa using hx)
              obtain ⟨b, ys, rfl, rm, h2⟩ := key _ _ _ ry e2 hy
              exact ⟨a, b, xs, ys, rfl, .inl ⟨h1 _ sb, h2 _ sb, go (zip_walk rl rm (walk_zip rfl) fun H' s => ⟨h1 _ s, h2 _ s⟩)⟩⟩
      · cases e
    · cases e

/-! ### for -/
def forGo (g : Tg) (b : M Fl) : List D → Ev → Out Fl
  | [], r => .ok .nx r
  | d :: l, r => match g d r with
    | none => .no
    | some r1 => match b r1 with
      | .ok .nx r2 => forGo g b l r2
      | .ok .ct r2 => forGo g b l r2
      | .ok .bk r2 => .ok .nx r2
      | .ok (.rt x) r2 => .ok (.rt x) r2
      | .ex e r2 => .ex e r2
      | .no => .no
@[simp] def sFor (it : M (List D)) (g : Tg) (b : M Fl) : M Fl := fun r => (it r).bind fun l r1 => forGo g b l r1
theorem s_for {tg iter : Expr} {body : List Stmt} {pos : Pos} {it : M (List D)} {g : Tg} {b : M Fl} {OL0 OL' : List Nat} (vs : List Nat) (hi : PI X tg iter (iIt G W OX O O1 it)) (hg : PG X tg (tG G OX vs OL OL' g)) (hb : PSs X body (tS G W OX OL OL' O2 b))
    (hp : PassesOwn (model X.prog X.w) X.A X.env X.xe) (hx : ∀ i ∈ OX, i ∈ OL := by decide) (hO1 : ∀ i ∈ OL, i ∈ O1 := by decide) (hO2 : ∀ i ∈ OL, i ∈ O2 := by decide) (hc : X.calm = true := by rfl) (hs : ∀ x, foldedSetIterable iter X.env x = pure x := by intro _; rfl) :
    PS X (.For tg iter body [] pos) (tS G W OX OL0 O OL (sFor it g b)) :=
  (ps_for hp hc hi hg hb hs).imp fun Dn σ H ⟨F, r, S, p⟩ => tS_bind S p fun l J F1 H1 r1 n1 rl p => by
    obtain ⟨F2, S2, s2⟩ := Sta.freezeTo OL _ rfl hO1 n1.sta
    have n2 : Nx G OX O1 OL σ F1 H1 σ F2 H1 r1 := ⟨S2, s2, fun _ _ => rfl, fun _ m => .inl (m.sub hO1)⟩
    refine for_it rl (fun i σ' H' => ∃ F' r', Nx G OX O1 OL σ F1 H1 σ' F' H' r' ∧ PstS G W OX OL0 OL OL σ' F' H' Dn (forGo g b (l.drop i) r')) ⟨F2, r1, n2, PstS.after n2 p⟩ (fun i σ' H' _ ⟨F', r', n, _⟩ => n.stp.fz.trans n.sta.sub) ?_ ?_
    · intro i x σ' H' H'' hi ⟨F', r', n, p⟩ y
      obtain ⟨d, ed, y⟩ := y
      have el : l.drop i = d :: l.drop (i + 1) := by
        have hl : i < l.length := hi
        rw [List.drop_eq_getElem_cons hl]
        congr 1
        have := List.getElem?_eq_getElem hl
        rw [this] at ed
        exact Option.some.inj ed
      rw [el, forGo] at p
      have run : ∀ (F'' : Hp), Nx G OX OL OL σ' F' H' σ' F'' H'' r' → Rep G F'' d x → tG G OX vs OL OL' g x σ' H'' fun σ2 H2 => tS G W OX OL OL' O2 b { Dn with nx := fun σ' H' => ∃ F' r', Nx G OX O1 OL σ F1 H1 σ' F' H' r' ∧ PstS G W OX OL0 OL OL σ' F' H' Dn (forGo g b (l.drop (i + 1)) r'), ct := fun σ' H' => ∃ F' r', Nx G OX O1 OL σ F1 H1 σ' F' H' r' ∧ PstS G W OX OL0 OL OL σ' F' H' Dn (forGo g b (l.drop (i + 1)) r'), bk := Dn.nx } σ2 H2 := fun F'' m rd => by
        revert p
        cases e : g d r' with
        | none => exact fun p => p.elim
        | some r2 =>
          intro p
          have p : PstS G W OX OL0 OL OL σ' F' H' Dn (match b r2 with
            | .ok .nx r2 => forGo g b (l.drop (i + 1)) r2
            | .ok .ct r2 => forGo g b (l.drop (i + 1)) r2
            | .ok .bk r2 => .ok .nx r2
            | .ok (.rt x) r2 => .ok (.rt x) r2
            | .ex e r2 => .ex e r2
            | .no => .no) := p
          refine ⟨F'', r', d, r2, m.sta, rd, e, fun σ2 n3 _ => ⟨F'', r2, n3.sta, ?_⟩⟩
          have m3 := m.trans n3
          revert p
          cases b r2 with
          | no => exact fun p => p.elim
          | ex e r3 => exact fun p c dx σ4 F4 H4 n4 xr => p c dx σ4 F4 H4 (m3.trans n4) xr
          | ok c r3 =>
            cases c with
            | nx =>
              intro p σ4 F4 H4 n4
              obtain ⟨F5, n5, _⟩ := (m3.trans n4).freeze hO2
              exact ⟨F5, r3, n.trans n5, PstS.after n5 p⟩
            | ct => exact fun p σ4 F4 H4 n4 => ⟨F4, r3, n.trans (m3.trans n4), PstS.after (m3.trans n4) p⟩
            | bk => exact fun p σ4 F4 H4 n4 => p σ4 F4 H4 (m3.trans n4)
            | rt d => exact fun p v σ4 F4 H4 n4 rv => p v σ4 F4 H4 (m3.trans n4) rv
      rcases y with ⟨e1, rd⟩ | ⟨T, xs, ds, rfl, rfl, hT, rfl, rl'⟩
      · subst e1
        exact run F' (Nx.rfl' n.sta) (rd.mono n.stp.fz)
      · obtain ⟨S', s'⟩ := new_fz (o := .tup xs) n.sta hT rfl
        exact run _ (Nx.of S' s' fun _ h => h) (.tup (.inl (.inl upd_same)) ((rl'.mono n.stp.fz).mono s'.fz))
    · intro σ' H' ⟨F', r', n, p⟩
      rw [List.drop_length] at p
      exact p σ' F' H' (Nx.rfl' n.sta)

/-! ### while -/
def whGo (t : M Bool) (b : M Fl) : Nat → Ev → Out Fl
  | 0, _ => .no
  | n + 1, r => (t r).bind fun c r1 => if c then (match b r1 with
      | .ok .nx r2 => whGo t b n r2
      | .ok .ct r2 => whGo t b n r2
      | .ok .bk r2 => .ok .nx r2
      | .ok (.rt x) r2 => .ok (.rt x) r2
      | .ex e r2 => .ex e r2
      | .no => .no) else .ok .nx r1
def fuel : Nat := 2 ^ 62
@[simp] def sWh (t : M Bool) (b : M Fl) : M Fl := fun r => whGo t b fuel r
theorem s_while {c : Expr} {body : List Stmt} {pos : Pos} {t : M Bool} {b : M Fl} {OL0 : List Nat} (ht : PT X c (tT G W OX OL OL t)) (hb : PSs X body (tS G W OX OL OL O2 b)) (hp : PassesOwn (model X.prog X.w) X.A X.env X.xe)
    (hO1 : ∀ i ∈ OL, i ∈ O := by decide) (hO2 : ∀ i ∈ OL, i ∈ O2 := by decide) : PS X (.While c body [] pos) (tS G W OX OL0 O OL (sWh t b)) :=
  (ps_while hp ht hb).imp fun Dn σ H ⟨F, r, S, p⟩ => by
    obtain ⟨F2, S2, s2⟩ := Sta.freezeTo OL _ rfl hO1 S
    have n2 : Nx G OX O OL σ F H σ F2 H r := ⟨S2, s2, fun _ _ => rfl, fun _ m => .inl (m.sub hO1)⟩
    refine ⟨fun m σ' H' => ∃ F' r', Sta G OL F' H' σ' r' ∧ PstS G W OX OL0 OL OL σ' F' H' Dn (whGo t b m r'), ⟨fuel, F2, r, S2, PstS.after n2 p⟩, ?_⟩
    intro m σ' H' ⟨F', r', S', p⟩
    cases m with
    | zero => exact p.elim
    | succ m =>
      rw [whGo] at p
      refine tS_bind S' p fun x y F1 H1 r1 n1 rl p => ?_
      subst rl
      cases x with
      | false => exact p σ' F1 H1 (Nx.rfl' n1.sta)
      | true =>
        refine ⟨fun σ' H' => ∃ F' r', Sta G OL F' H' σ' r' ∧ PstS G W OX OL0 OL OL σ' F' H' Dn (whGo t b m r'), fun σ3 H3 h => ⟨m, Nat.lt_succ_self m, h⟩, F1, r1, n1.sta, ?_⟩
        have p : PstS G W OX OL0 OL OL σ' F1 H1 Dn (match b r1 with
          | .ok .nx r2 => whGo t b m r2
          | .ok .ct r2 => whGo t b m r2
          | .ok .bk r2 => .ok .nx r2
          | .ok (.rt x) r2 => .ok (.rt x) r2
          | .ex e r2 => .ex e r2
          | .no => .no) := p
        revert p
        cases b r1 with
        | no => exact fun p => p.elim
        | ex e r3 => exact fun p c dx σ4 F4 H4 n4 xr => p c dx σ4 F4 H4 n4 xr
        | ok c r3 =>
          cases c with
          | nx =>
            intro p σ4 F4 H4 n4
            obtain ⟨F5, n5, _⟩ := n4.freeze hO2
            exact ⟨F5, r3, n5.sta, PstS.after n5 p⟩
          | ct => exact fun p σ4 F4 H4 n4 => ⟨F4, r3, n4.sta, PstS.after n4 p⟩
          | bk => exact fun p σ4 F4 H4 n4 => p σ4 F4 H4 n4
          | rt d => exact fun p v σ4 F4 H4 n4 rv => p v σ4 F4 H4 n4 rv
end
end Z

/-! New objects that this code may change; comprehensions. -/
namespace Z
open PySem PySem.Spec PyProof.Rows L2

def wipeE (vs : List Nat) (r : Ev) : Ev := match vs with
  | [] => r
  | v :: vs => (wipeE vs r).set v none
/-- the slots of vs as they were in r -/
def backE (r : Ev) (vs : List Nat) (q : Ev) : Ev := match vs with
  | [] => q
  | v :: vs => (backE r vs q).set v (r.getD v none)
/-- the turns of a comprehension -/
def lcGo (vs : List Nat) (g : Tg) (t : M Bool) (f : M D) : List D → Ev → Option (List D × Ev)
  | [], r => some ([], r)
  | d :: l, r => match g d (wipeE vs r) with
    | none => none
    | some r1 => match t r1 with
      | .ok true r2 => (match f r2 with
        | .ok y r3 => (lcGo vs g t f l r3).map fun (p : List D × Ev) => (y :: p.1, p.2)
        | _ => none)
      | .ok false r2 => lcGo vs g t f l r2
      | _ => none
def lcOut (vs : List Nat) (r1 : Ev) : Option (List D × Ev) → Out D
  | some (ys, r2) => .ok (.lst ys) (backE r1 vs r2)
  | none => .no
@[simp] def eLc (vs : List Nat) (it : M (List D)) (g : Tg) (t : M Bool) (f : M D) : M D := fun r => (it r).bind fun l r1 => if l.length ≤ big then lcOut vs r1 (lcGo vs g t f l r1) else .no
@[simp] def tY : M Bool := fun r => .ok true r

theorem wipeE_out {r : Ev} {i : Nat} : ∀ {vs : List Nat}, i ∉ vs → (wipeE vs r)[i]? = r[i]?
  | [], _ => rfl
  | v :: vs, h => by
    have h1 : v ≠ i := fun e => h (by rw [e]; exact List.mem_cons_self)
    rw [wipeE, List.getElem?_set_ne h1]
    exact wipeE_out fun m => h (List.mem_cons_of_mem _ m)
theorem wipeE_in {r : Ev} {i : Nat} {d : D} : ∀ {vs : List Nat}, i ∈ vs → (wipeE vs r)[i]? ≠ some (some d)
  | v :: vs, h => by
    rw [wipeE]
    by_cases e : v = i
    · subst e
      by_cases hl : v < (wipeE vs r).length
      · rw [List.getElem?_set_self hl]
        exact fun z => nomatch z
      · rw [List.getElem?_eq_none (by simpa using hl)]
        exact fun z => nomatch z
    · rw [List.getElem?_set_ne e]
      refine wipeE_in ?_
      rcases List.mem_cons.mp h with z | z
      · exact absurd z.symm e
      · exact z
theorem wipeE_len {r : Ev} : ∀ {vs : List Nat}, (wipeE vs r).length = r.length
  | [] => rfl
  | v :: vs => by rw [wipeE, List.length_set, wipeE_len]
theorem backE_out {r q : Ev} {i : Nat} : ∀ {vs : List Nat}, i ∉ vs → (backE r vs q)[i]? = q[i]?
  | [], _ => rfl
  | v :: vs, h => by
    have h1 : v ≠ i := fun e => h (by rw [e]; exact List.mem_cons_self)
    rw [backE, List.getElem?_set_ne h1]
    exact backE_out fun m => h (List.mem_cons_of_mem _ m)
theorem backE_len {r q : Ev} : ∀ {vs : List Nat}, (backE r vs q).length = q.length
  | [] => rfl
  | v :: vs => by rw [backE, List.length_set, backE_len]
theorem backE_in {r q : Ev} {i : Nat} {d : D} : ∀ {vs : List Nat}, i ∈ vs → (backE r vs q)[i]? = some (some d) → r[i]? = some (some d)
  | v :: vs, h, e => by
    rw [backE] at e
    by_cases z : v = i
    · subst z
      by_cases hl : v < (backE r vs q).length
      · rw [List.getElem?_set_self hl] at e
        have e := Option.some.inj e
        rw [List.getD_eq_getElem?_getD] at e
        cases w : r[v]? with
        | none => rw [w] at e; cases e
        | some u => rw [w] at e; exact congrArg some e
      · rw [List.getElem?_eq_none (by simpa using hl)] at e
        cases e
    · rw [List.getElem?_set_ne z] at e
      refine backE_in ?_ e
      rcases List.mem_cons.mp h with w | w
      · exact absurd w.symm z
      · exact w

section
variable {G : Gm} {X : Cx} {W : WX} {OX OL vs O O1 O2 O3 : List Nat}
theorem Sta.wipe {σ : L2.St} {F H : Hp} {r : Ev} (S : Sta G O F H σ r) (hd : ∀ i ∈ vs, i ∉ O) : Sta G O F H (L2.wipe σ vs) (wipeE vs r) := by
  have ho : ∀ i ∈ O, i ∉ vs := fun i hi hv => hd i hv hi
  refine ⟨S.sub, S.wf, by rw [wipeE_len, wipe_length]; exact S.len, fun i d hi e => ?_, fun i hi => ?_, fun i j a hi hj ei ej => ?_⟩
  · by_cases hv : i ∈ vs
    · exact absurd e (wipeE_in hv)
    · rw [wipeE_out hv] at e
      rw [wipe_out hv]
      exact S.rp i d hi e
  · rw [wipeE_out (ho i hi), wipe_out (ho i hi)]
    exact S.ow i hi
  · rw [wipe_out (ho i hi)] at ei
    rw [wipe_out (ho j hj)] at ej
    exact S.dj i j a hi hj ei ej
theorem ownAt_wipe {σ : L2.St} {a : Addr} (hd : ∀ i ∈ vs, i ∉ O) : OwnAt O (L2.wipe σ vs) a ↔ OwnAt O σ a := by
  constructor
  · rintro ⟨i, hi, e⟩
    rw [wipe_out fun hv => hd i hv hi] at e
    exact ⟨i, hi, e⟩
  · rintro ⟨i, hi, e⟩
    exact ⟨i, hi, by rw [wipe_out fun hv => hd i hv hi]; exact e⟩
theorem Sta.back {σ : L2.St} {F H F1 H1 : Hp} {r1 q : Ev} (S1 : Sta G O F1 H1 σ r1) (S : Sta G O F H (L2.wipe σ vs) (wipeE vs q)) (sb : Sub F1 F) (hd : ∀ i ∈ vs, i ∉ O) : Sta G O F H σ (backE r1 vs q) := by
  have ho : ∀ i ∈ O, i ∉ vs := fun i hi hv => hd i hv hi
  refine ⟨S.sub, S.wf, by rw [backE_len, ← wipeE_len (vs := vs), S.len, wipe_length], fun i d hi e => ?_, fun i hi => ?_, S1.dj⟩
  · by_cases hv : i ∈ vs
    · obtain ⟨v, e1, rp⟩ := S1.rp i d hi (backE_in hv e)
      exact ⟨v, e1, rp.mono sb⟩
    · rw [backE_out hv, ← wipeE_out hv] at e
      obtain ⟨v, e1, rp⟩ := S.rp i d hi e
      rw [wipe_out hv] at e1
      exact ⟨v, e1, rp⟩
  · obtain ⟨d, v, e1, e2, o⟩ := S.ow i hi
    rw [wipeE_out (ho i hi)] at e1
    rw [wipe_out (ho i hi)] at e2
    exact ⟨d, v, by rw [backE_out (ho i hi)]; exact e1, e2, o⟩
theorem putD {σ : L2.St} {F H : Hp} {r : Ev} {Dd : Addr} {o o' : HO} (S : Sta G O F H σ r) (hH : H Dd = some o') (hF : F Dd = none) (hO : ¬ OwnAt O σ Dd) (hi : noIns o = true) : Sta G O F (upd H Dd o) σ r ∧ Stp (fun a => a = Dd) F H F (upd H Dd o) := by
  have st : Stp (fun a => a = Dd) F H F (upd H Dd o) := ⟨.rfl', fun a u e n => by rw [upd_ne n]; exact e, fun _ _ _ _ => rfl, fun _ e => upd_none e⟩
  refine ⟨S.stay st (fun a u e => ?_) (S.wf.upd hi) fun a m z => hO (z ▸ m), st⟩
  obtain ⟨o'', e', g⟩ := S.sub a u e
  refine ⟨o'', ?_, g⟩
  rw [upd_ne fun z => ?_]
  · exact e'
  · rw [z, hF] at e
    cases e
theorem takes_blk {s : Shared} {H : Hp} {scope : Scope} {cenv : PySem.Env} {fp : List Addr} : Takes (X.blk s H scope cenv fp) (fun _ _ _ _ => False) := fun _ _ ⟨_, _, _, _, _, _, _, _, _, _, _, _, _, _, _, _, w⟩ => w.elim
theorem pts_no : PTs X [] (tT G W OX O O tY) := ⟨fun pins s σ H Q I ⟨F, r, S, p⟩ => pts_nil.run pins s σ H Q I (p _ F H (Nx.rfl' S) rfl)⟩
theorem pts_1 {c : Expr} {t : M Bool} (h : PT X c (tT G W OX O O1 t)) : PTs X [c] (tT G W OX O O1 t) := pts_one h
/-- a new list or dict is given up at once -/
theorem ffz {f : M D} {σ : L2.St} {H : Hp} {Q : VK} (h : tE G W OX O O1 f σ H Q) : tF G W OX O O1 f σ H Q := by
  obtain ⟨F, r, S, p⟩ := h
  refine ⟨F, r, S, ?_⟩
  revert p
  cases f r with
  | no => exact fun p => p
  | ex e q => exact fun p => p
  | ok d q =>
    intro p v F1 H1 n ⟨ow, nw⟩
    obtain ⟨F2, a, o, rfl, ha, rfl, k1, k2, rp⟩ := ow.freeze n.sta.sub
    obtain ⟨h0, hO⟩ := nw a rfl
    have st : Stp (fun x => x = a) F1 H1 (upd F1 a o) H1 := ⟨k1, fun _ _ e _ => e, fun _ _ _ nn => upd_ne nn, fun _ e => e⟩
    exact p _ _ H1 ⟨n.sta.stay st k2 n.sta.wf fun b m z => hO (z ▸ m), n.stp.trans st fun x z => .inr (z ▸ h0), n.kp, n.pv⟩ rp
theorem _root_.L2.PE.fz {e : Expr} {f : M D} (h : PE X e (tF G W OX O O1 f)) : PE X e (tE G W OX O O1 f) := ⟨fun pins s σ H Q I q => h.run pins s σ H Q I (ffz q)⟩
theorem lc_imp {own : List (Str × Nat)} {it : M (List D)} {g : Tg} {t : M Bool} {f : M D} (hvs : own.map (·.2) = vs) (hd : ∀ i ∈ vs, i ∉ O1) (σ : L2.St) (H : Hp) (Q : VK) (h : tF G W OX O O1 (eLc vs it g t f) σ H Q) :
    tLc (iIt G W OX O O1 it) (tG G [] vs O1 O1 g) (tT G (fun _ _ _ _ => False) [] O1 O1 t) (tE G (fun _ _ _ _ => False) [] O1 O1 f) (own.map (·.2)) σ H Q := by
  obtain ⟨F, r, S, p⟩ := h
  refine tX_bind S p fun l J F1 H1 r1 n1 rl p => ?_
  rw [hvs]
  intro Dd hD
  split at p
  case isFalse => exact p.elim
  rename_i hlen
  have fD : F1 Dd = none := by
    cases q : F1 Dd with
    | none => rfl
    | some u =>
      obtain ⟨o', e, _⟩ := n1.sta.sub Dd u q
      rw [hD] at e
      cases e
  have nO : ¬ OwnAt O1 σ Dd := fun ⟨i, hi, e⟩ => by
    obtain ⟨d, v, _, e2, ow⟩ := n1.sta.ow i hi
    rw [e] at e2
    cases e2
    obtain ⟨a, o, ea, ha⟩ := ow.there
    cases ea
    rw [hD] at ha
    cases ha
  -- the walk: what the turns so far have built
  let Pv : Nat → Hp → Prop := fun i H' => ∃ F' r' ys acc, Sta G O1 F' H' (L2.wipe σ vs) (wipeE vs r') ∧ Stp (fun a => OwnAt O1 σ a ∨ a = Dd) F1 (upd H1 Dd (.lst [])) F' H' ∧ H' Dd = some (.lst acc) ∧ F' Dd = none ∧ RepL G F' ys acc ∧ acc.length ≤ i ∧
    Pst G W OX O1 O1 σ F1 H1 (RF G O1 σ H) Q (lcOut vs r1 ((lcGo vs g t f (l.drop i) r').map fun (p : List D × Ev) => (ys ++ p.1, p.2)))
  have start := new_ow (o := .lst []) n1.sta hD rfl
  refine lc_it rl Pv ⟨F1, r1, [], [], start.1.wipe hd, .rfl', upd_same, fD, .nil, Nat.zero_le _, ?_⟩ (fun i H' _ ⟨F', r', ys, acc, S', st, _⟩ => st.fz.trans S'.sub) ?_ ?_
  · rw [List.drop_zero]
    have : (lcGo vs g t f l r1).map (fun p => (([] : List D) ++ p.1, p.2)) = lcGo vs g t f l r1 := by
      rw [show (fun p : List D × Ev => (([] : List D) ++ p.1, p.2)) = id from by funext p; rfl]
      simp
    rw [this]
    exact p
  · rintro i x H' H'' hi ⟨F', r', ys, acc, S', st, hDd, fDd, ry, ha, p⟩ ⟨d, ed, y⟩
    have el : l.drop i = d :: l.drop (i + 1) := by
      have hl : i < l.length := hi
      rw [List.drop_eq_getElem_cons hl]
      congr 1
      have := List.getElem?_eq_getElem hl
      rw [this] at ed
      exact Option.some.inj ed
    rw [el, lcGo] at p
    -- the value given: behind it nothing but a new tuple
    have run : ∀ (F2 : Hp), Sta G O1 F2 H'' (L2.wipe σ vs) (wipeE vs r') → Stp (fun a => OwnAt O1 σ a ∨ a = Dd) F1 (upd H1 Dd (.lst [])) F2 H'' → H'' Dd = some (.lst acc) → F2 Dd = none → RepL G F2 ys acc → Rep G F2 d x →
        tG G [] vs O1 O1 g x (L2.wipe σ vs) H'' fun σ2 H2 => L2.wipe σ2 vs = L2.wipe σ vs ∧ tT G (fun _ _ _ _ => False) [] O1 O1 t σ2 H2 fun b H3 => if b = true then tE G (fun _ _ _ _ => False) [] O1 O1 f σ2 H3 fun y H4 => ∃ acc, H4 Dd = some (.lst acc) ∧ acc.length < sizeLine ∧ Pv (i + 1) (upd H4 Dd (.lst (acc ++ [y]))) else Pv (i + 1) H3 := fun F2 S2 st2 hD2 fD2 ry2 rx => by
      cases e : g d (wipeE vs r') with
      | none =>
        rw [e] at p
        exact p.elim
      | some r2 =>
        rw [e] at p
        refine ⟨F2, _, d, r2, S2, rx, e, fun σ2 n3 w3 => ?_⟩
        have w3 : L2.wipe σ2 vs = L2.wipe σ vs := by
          have idem : ∀ (l : List Nat) (σ : L2.St), (∀ i ∈ l, i ∈ vs) → L2.wipe (L2.wipe σ l) vs = L2.wipe σ vs := by
            intro l
            induction l with
            | nil => exact fun _ _ => rfl
            | cons a l ih =>
              intro σ h
              rw [L2.wipe, wipe_set (h a List.mem_cons_self)]
              exact ih σ fun i hi => h i (List.mem_cons_of_mem _ hi)
          rw [w3]
          exact idem vs σ fun _ h => h
        refine ⟨w3, F2, r2, n3.sta, ?_⟩
        have mo : ∀ {a}, OwnAt O1 σ2 a → OwnAt O1 σ a := fun {a} m => (ownAt_wipe hd).mp (by rw [← w3]; exact (ownAt_wipe hd).mpr m)
        have nO2 : ¬ OwnAt O1 σ2 Dd := fun m => nO (mo m)
        have p : Pst G W OX O1 O1 σ F1 H1 (RF G O1 σ H) Q (lcOut vs r1 ((match t r2 with
          | .ok true r2 => (match f r2 with
            | .ok y r3 => (lcGo vs g t f (l.drop (i + 1)) r3).map fun (p : List D × Ev) => (y :: p.1, p.2)
            | _ => none)
          | .ok false r2 => lcGo vs g t f (l.drop (i + 1)) r2
          | _ => none).map fun (p : List D × Ev) => (ys ++ p.1, p.2))) := p
        -- one step more: own objects and nothing else changed
        have ext : ∀ {F3 H3 : Hp} {q : Ev}, Nx G [] O1 O1 σ2 F2 H'' σ2 F3 H3 q → Stp (fun a => OwnAt O1 σ a ∨ a = Dd) F1 (upd H1 Dd (.lst [])) F3 H3 ∧ H3 Dd = some (.lst acc) ∧ F3 Dd = none ∧ RepL G F3 ys acc := fun {F3 H3 q} n =>
          ⟨st2.trans n.stp fun x m => .inl (.inl (mo m)), n.stp.kp _ _ hD2 nO2, (n.stp.nf _ _ hD2 nO2).trans fD2, ry2.mono n.stp.fz⟩
        have again : ∀ {F3 H3 : Hp} {q : Ev}, Nx G [] O1 O1 σ2 F2 H'' σ2 F3 H3 q → Sta G O1 F3 H3 (L2.wipe σ vs) (wipeE vs q) := fun {F3 H3 q} n => by
          rw [← w3]
          exact n.sta.wipe hd
        revert p
        cases t r2 with
        | no => exact fun p => p.elim
        | ex e q => exact fun p => p.elim
        | ok c r3 =>
          cases c with
          | false =>
            intro p b F3 H3 n eb
            cases eb
            rw [if_neg (by decide)]
            obtain ⟨a1, a2, a3, a4⟩ := ext n
            exact ⟨F3, r3, ys, acc, again n, a1, a2, a3, a4, Nat.le_succ_of_le ha, p⟩
          | true =>
            intro p b F3 H3 n eb
            cases eb
            rw [if_pos rfl]
            have p : Pst G W OX O1 O1 σ F1 H1 (RF G O1 σ H) Q (lcOut vs r1 ((match f r3 with
              | .ok y r3 => (lcGo vs g t f (l.drop (i + 1)) r3).map fun (p : List D × Ev) => (y :: p.1, p.2)
              | _ => none).map fun (p : List D × Ev) => (ys ++ p.1, p.2))) := p
            refine ⟨F3, r3, n.sta, ?_⟩
            revert p
            cases f r3 with
            | no => exact fun p => p.elim
            | ex e q => exact fun p => p.elim
            | ok z r4 =>
              intro p w F4 H4 n4 rw4
              have nn := n.trans n4
              obtain ⟨a1, a2, a3, a4⟩ := ext nn
              refine ⟨acc, a2, ?_, ?_⟩
              · have h1 : acc.length < l.length := Nat.lt_of_le_of_lt ha hi
                exact Nat.lt_of_lt_of_le h1 (big_line hlen)
              · obtain ⟨S5, st5⟩ := putD (o := .lst (acc ++ [w])) (again nn) a2 a3 (fun m => nO ((ownAt_wipe hd).mp m)) rfl
                refine ⟨F4, r4, ys ++ [z], acc ++ [w], S5, a1.trans st5 fun x m => .inl (.inr m), upd_same, a3, a4.app (.cons rw4 .nil), by simp; exact ha, ?_⟩
                rw [Option.map_map] at p
                have : ((fun p : List D × Ev => (ys ++ p.1, p.2)) ∘ fun p : List D × Ev => (z :: p.1, p.2)) = fun p => ((ys ++ [z]) ++ p.1, p.2) := by
                  funext p
                  simp
                rw [this] at p
                exact p
    rcases y with ⟨e1, rd⟩ | ⟨T, xs, ds, rfl, rfl, hT, rfl, rl'⟩
    · subst e1
      exact run F' S' st hDd fDd ry (rd.mono st.fz)
    · obtain ⟨S2, s2⟩ := new_fz (o := .tup xs) S' hT rfl
      have ne : Dd ≠ T := fun z => by rw [z, hT] at hDd; cases hDd
      exact run _ S2 (st.trans s2 fun x m => .inl (.inl ((ownAt_wipe hd).mp m))) (by rw [upd_ne ne]; exact hDd) (by rw [upd_ne ne]; exact fDd) (ry.mono s2.fz) (.tup (.inl (.inl upd_same)) ((rl'.mono st.fz).mono s2.fz))
  · rintro H' ⟨F', r', ys, acc, S', st, hDd, fDd, ry, ha, p⟩
    rw [List.drop_length] at p
    have p : Pst G W OX O1 O1 σ F1 H1 (RF G O1 σ H) Q (.ok (.lst (ys ++ [])) (backE r1 vs r')) := p
    rw [List.append_nil] at p
    refine p _ F' H' ⟨n1.sta.back S' st.fz hd, (start.2.1.trans st fun x m => ?_), fun _ _ => rfl, fun a m => .inl m⟩ ⟨.lst hDd fDd ry, fun a ea => ?_⟩
    · rcases m with m | m
      · exact .inl m
      · exact .inr (by rw [m]; exact hD)
    · cases ea
      exact ⟨n1.stp.tr _ hD, nO⟩
theorem e_lcF {elt tg iter : Expr} {ifs : List Expr} {scope : Scope} {pos : Pos} {it : M (List D)} {g : Tg} {t : M Bool} {f : M D} (own : List (Str × Nat)) (hvs : own.map (·.2) = vs) (hi : PI X tg iter (iIt G W OX O O1 it)) (ok : BlkOk X.N X.env.scope scope own)
    (hg : ∀ (s : Shared) (H : Hp) (C : Addr) (cl : List (Str × Addr)) (fp : List Addr), PG (X.blk s H scope (compEnvC scope cl C X.env) fp) tg (tG G [] vs O1 O1 g)) (ht : ∀ (s : Shared) (H : Hp) (C : Addr) (cl : List (Str × Addr)) (fp : List Addr), PTs (X.blk s H scope (compEnvC scope cl C X.env) fp) ifs (tT G (fun _ _ _ _ => False) [] O1 O1 t))
    (he : ∀ (s : Shared) (H : Hp) (C : Addr) (cl : List (Str × Addr)) (fp : List Addr), PE (X.blk s H scope (compEnvC scope cl C X.env) fp) elt (tE G (fun _ _ _ _ => False) [] O1 O1 f)) (hN : X.N.Nodup := by first | assumption | decide +kernel) (hd : ∀ i ∈ vs, i ∉ O1 := by decide) (hc : X.calm = true := by rfl) (hs : ∀ x, foldedSetIterable iter X.env x = pure x := by intro _; rfl) :
    PE X (.ListComp elt [⟨tg, iter, ifs, 0⟩] scope pos) (tF G W OX O O1 (eLc vs it g t f)) :=
  (pe_lc hc hN hi ok hg ht he hs).imp (lc_imp hvs hd)
end
end Z

/-! Built-in calls; isinstance; assignment, attribute stores, own lists. -/
namespace Z
open PySem PySem.Spec PyProof.Rows L2

def toInts : List D → Option (List Int)
  | [] => some []
  | .int i :: l => (toInts l).map (i :: ·)
  | _ => none
def toBls : List D → Option (List Bool)
  | [] => some []
  | .bl i :: l => (toBls l).map (i :: ·)
  | _ => none
theorem toInts_eq : ∀ {l : List D} {ns : List Int}, toInts l = some ns → l = ns.map D.int
  | [], ns, e => by cases e; rfl
  | d :: l, ns, e => by
    cases d with
    | int i =>
      obtain ⟨m, e1, e2⟩ := Option.map_eq_some_iff.mp (show (toInts l).map (i :: ·) = some ns from e)
      subst e2
      rw [toInts_eq e1]
      rfl
    | _ => cases e
theorem toInts_map (ns : List Int) : toInts (ns.map D.int) = some ns := by
  induction ns with
  | nil => rfl
  | cons i l ih => rw [List.map_cons, toInts, ih]; rfl
theorem toBls_eq : ∀ {l : List D} {ns : List Bool}, toBls l = some ns → l = ns.map D.bl
  | [], ns, e => by cases e; rfl
  | d :: l, ns, e => by
    cases d with
    | bl i =>
      obtain ⟨m, e1, e2⟩ := Option.map_eq_some_iff.mp (show (toBls l).map (i :: ·) = some ns from e)
      subst e2
      rw [toBls_eq e1]
      rfl
    | _ => cases e
theorem toBls_map (ns : List Bool) : toBls (ns.map D.bl) = some ns := by
  induction ns with
  | nil => rfl
  | cons i l ih => rw [List.map_cons, toBls, ih]; rfl
def lisOf : D → Option (List D)
  | .lst l => some l
  | .kl l => some l
  | _ => none
def pLen : List D → Option D
  | [.str z] => if z.length ≤ big then some (.int z.length) else none
  | [x] => (itemsOf x).map fun l => .int (l.length : Nat)
  | _ => none
def pAbs : List D → Option D
  | [.int i] => some (.int (if i < 0 then -i else i))
  | _ => none
def pInt : List D → Option D
  | [.int i] => some (.int i)
  | [.bl k] => some (.int (if k then 1 else 0))
  | _ => none
def pBool : List D → Option D
  | [.int i] => some (.bl (i != 0))
  | [.bl k] => some (.bl k)
  | _ => none
def pSum : List D → Option D
  | [x] => (lisOf x).bind fun l => (toInts l).map fun ns => .int ns.sum
  | _ => none
def pAll : List D → Option D
  | [x] => (lisOf x).bind fun l => (toBls l).map fun ns => .bl (ns.all id)
  | _ => none
def pAny : List D → Option D
  | [x] => (lisOf x).bind fun l => (toBls l).map fun ns => .bl (ns.any id)
  | _ => none
def pTuple : List D → Option D
  | [x] => (itemsOf x).map fun l => .tup l
  | _ => none
def pList : List D → Option D
  | [x] => (itemsOf x).map fun l => .lst l
  | _ => none
def pGcd : List D → Option D
  | [.int a, .int b] => some (.int ((Nat.gcd a.natAbs b.natAbs : Nat) : Int))
  | _ => none
def pMax2 : List D → Option D
  | [.int i, .int j] => some (.int (if j > i then j else i))
  | _ => none
def pMin2 : List D → Option D
  | [.int i, .int j] => some (.int (if j < i then j else i))
  | _ => none

section
variable {G : Gm} {X : Cx} {W : WX} {OX OL vs O O1 O2 O3 : List Nat}
/-- the rule rr of a built-in says what p says of trees -/
def Says (G : Gm) (X : Cx) (W : WX) (OX O : List Nat) (p : List D → Option D) (rr : List V → Hp → VK → Prop) : Prop :=
  ∀ (σ : L2.St) (F H : Hp) (r : Ev) (ds : List D) (vs : List V) (d : D) (Q : VK), Sta G O F H σ r → RepL G F ds vs → p ds = some d → Pst G W OX O O σ F H (RD G) Q (.ok d r) → rr vs H Q
theorem says_of {p : List D → Option D} {rr : List V → Hp → VK → Prop} (h : Says G X W OX O1 p rr) {t : List Expr} {f : M (List D)} {σ : L2.St} {H : Hp} {Q : VK} (q : tE G W OX O O1 (eN p f) σ H Q) : tCB rr (tA G W OX O O1 f) σ H Q := by
  obtain ⟨F, r, S, q⟩ := q
  refine tX_bind S q fun ds vs F1 H1 r1 n1 rs q => ?_
  obtain ⟨d, e, q⟩ := q.lift
  exact h σ F1 H1 r1 ds vs d Q n1.sta rs e q
theorem e_cB {x : Str} {id : String} {e : Expr} {es : List Expr} {pp pos : Pos} {f : M (List D)} {rr : List V → Hp → VK → Prop} (p : List D → Option D) (hc : CallR X (.builtin id) rr) (hp : Says G X W OX O1 p rr) (ha : PA X (e :: es) (tA G W OX O O1 f)) (hm : X.mg x = none := by assumption) (hv : bootBuiltins x = some (.builtin id) := by first | assumption | decide +kernel) (hg : Gl X x := by rfl) (hn : x ≠ "__name__" := by decide) (hdb : (x == ("__debug__" : Str)) = false := by decide)
    (he : starEach (e :: es) X.env = (false, eval e X.env) :: starEach es X.env := by rfl) (hpl : (backTo pos (starEach es X.env)).any (·.1) = false := by rfl) : PE X (.Call (.Name x pp) (e :: es) [] pos) (tE G W OX O O1 (eN p f)) :=
  (pe_callB hc hg hm hv ha hn hdb he hpl).imp fun σ H Q q => says_of (t := es) hp q
theorem e_cT {x : Str} {id : String} {e : Expr} {es : List Expr} {pp pos : Pos} {f : M (List D)} {rr : List V → Hp → VK → Prop} (p : List D → Option D) (hc : CallR X (.type id) rr) (hp : Says G X W OX O1 p rr) (ha : PA X (e :: es) (tA G W OX O O1 f)) (hm : X.mg x = none := by assumption) (hv : bootBuiltins x = some (.type id) := by first | assumption | decide +kernel) (hg : Gl X x := by rfl) (hn : x ≠ "__name__" := by decide) (hdb : (x == ("__debug__" : Str)) = false := by decide)
    (he : starEach (e :: es) X.env = (false, eval e X.env) :: starEach es X.env := by rfl) (hpl : (backTo pos (starEach es X.env)).any (·.1) = false := by rfl) : PE X (.Call (.Name x pp) (e :: es) [] pos) (tE G W OX O O1 (eN p f)) :=
  (pe_callTy hc hg hm hv ha hn hdb he hpl).imp fun σ H Q q => says_of (t := es) hp q
theorem e_cM {x : Str} {id : String} {e : Expr} {es : List Expr} {pp pos : Pos} {f : M (List D)} {rr : List V → Hp → VK → Prop} (p : List D → Option D) (hc : CallR X (.builtin id) rr) (hp : Says G X W OX O1 p rr) (ha : PA X (e :: es) (tA G W OX O O1 f)) (hm : X.mg x = some (.builtin id)) (hg : Gl X x := by rfl) (hdb : (x == ("__debug__" : Str)) = false := by decide)
    (he : starEach (e :: es) X.env = (false, eval e X.env) :: starEach es X.env := by rfl) (hpl : (backTo pos (starEach es X.env)).any (·.1) = false := by rfl) : PE X (.Call (.Name x pp) (e :: es) [] pos) (tE G W OX O O1 (eN p f)) :=
  (pe_callBfun hc hg hm ha hdb he hpl).imp fun σ H Q q => says_of (t := es) hp q
/-- a fresh list of list(..) -/
theorem lis_of {F : Hp} {x : D} {v : V} {l : List D} (h : Rep G F x v) (e : lisOf x = some l) : ∃ a xs, v = .ref a ∧ (∀ H, Sub F H → SqL G.K H a xs) ∧ RepL G F l xs := by
  cases h with
  | lst h r => cases e; exact ⟨_, _, rfl, fun H sb => sb.sqL (.inl (.inl h)), r⟩
  | kl h r => cases e; exact ⟨_, _, rfl, fun H sb => sb.sqL h, r⟩
  | _ => cases e
theorem e_len {x : Expr} {xs : List Expr} {pp pos : Pos} {f : M (List D)} (ha : PA X (x :: xs) (tA G W OX O O1 f)) (hm : X.mg "len" = none := by assumption) (hg : Gl X "len" := by rfl) (hK : X.K = G.K := by rfl)
    (he : starEach (x :: xs) X.env = (false, eval x X.env) :: starEach xs X.env := by rfl) (hpl : (backTo pos (starEach xs X.env)).any (·.1) = false := by rfl) : PE X (.Call (.Name "len" pp) (x :: xs) [] pos) (tE G W OX O O1 (eN pLen f)) :=
  e_cB pLen call_len (fun σ F H r ds vs d Q S rs e q => by
    unfold pLen at e
    split at e
    · split at e
      · rename_i hz
        cases e
        cases rs with
        | cons r1 rr =>
          cases rr
          cases r1
          exact ⟨_, _, rfl, ⟨big_line hz, rfl⟩, q.ok S .int⟩
      · cases e
    · obtain ⟨l, e1, e2⟩ := Option.map_eq_some_iff.mp e
      subst e2
      cases rs with
      | cons r1 rr =>
        cases rr
        obtain ⟨a, xs, rfl, hq, rl⟩ := r1.items S.sub e1
        rw [hK]
        rw [rl.length] at q
        exact ⟨_, xs.length, rfl, hq.elim (fun h => .inl ⟨_, h, rfl⟩) fun h => .inr ⟨_, h, rfl⟩, q.ok S .int⟩
    · cases e) ha hm (hg := hg) (he := he) (hpl := hpl)
theorem e_abs {x : Expr} {xs : List Expr} {pp pos : Pos} {f : M (List D)} (ha : PA X (x :: xs) (tA G W OX O O1 f)) (hm : X.mg "abs" = none := by assumption) (hg : Gl X "abs" := by rfl)
    (he : starEach (x :: xs) X.env = (false, eval x X.env) :: starEach xs X.env := by rfl) (hpl : (backTo pos (starEach xs X.env)).any (·.1) = false := by rfl) : PE X (.Call (.Name "abs" pp) (x :: xs) [] pos) (tE G W OX O O1 (eN pAbs f)) :=
  e_cB pAbs call_abs (fun σ F H r ds vs d Q S rs e q => by
    unfold pAbs at e
    split at e
    · cases e
      cases rs with
      | cons r1 rr => cases rr; cases r1; exact ⟨_, rfl, q.ok S .int⟩
    · cases e) ha hm (hg := hg) (he := he) (hpl := hpl)
theorem e_toInt {x : Expr} {xs : List Expr} {pp pos : Pos} {f : M (List D)} (ha : PA X (x :: xs) (tA G W OX O O1 f)) (hm : X.mg "int" = none := by assumption) (hg : Gl X "int" := by rfl)
    (he : starEach (x :: xs) X.env = (false, eval x X.env) :: starEach xs X.env := by rfl) (hpl : (backTo pos (starEach xs X.env)).any (·.1) = false := by rfl) : PE X (.Call (.Name "int" pp) (x :: xs) [] pos) (tE G W OX O O1 (eN pInt f)) :=
  e_cT pInt call_int1 (fun σ F H r ds vs d Q S rs e q => by
    unfold pInt at e
    split at e
    · cases e
      cases rs with
      | cons r1 rr => cases rr; cases r1; exact .inl ⟨_, rfl, q.ok S .int⟩
    · cases e
      cases rs with
      | cons r1 rr => cases rr; cases r1; exact .inr ⟨_, rfl, q.ok S .int⟩
    · cases e) ha hm (hg := hg) (he := he) (hpl := hpl)
theorem e_toBool {x : Expr} {xs : List Expr} {pp pos : Pos} {f : M (List D)} (ha : PA X (x :: xs) (tA G W OX O O1 f)) (hm : X.mg "bool" = none := by assumption) (hg : Gl X "bool" := by rfl)
    (he : starEach (x :: xs) X.env = (false, eval x X.env) :: starEach xs X.env := by rfl) (hpl : (backTo pos (starEach xs X.env)).any (·.1) = false := by rfl) : PE X (.Call (.Name "bool" pp) (x :: xs) [] pos) (tE G W OX O O1 (eN pBool f)) :=
  e_cT pBool call_bool1 (fun σ F H r ds vs d Q S rs e q => by
    unfold pBool at e
    split at e
    · cases e
      cases rs with
      | cons r1 rr => cases rr; cases r1; exact .inl ⟨_, rfl, q.ok S .bl⟩
    · cases e
      cases rs with
      | cons r1 rr => cases rr; cases r1; exact .inr ⟨_, rfl, q.ok S .bl⟩
    · cases e) ha hm (hg := hg) (he := he) (hpl := hpl)
theorem e_sum {x : Expr} {xs : List Expr} {pp pos : Pos} {f : M (List D)} (ha : PA X (x :: xs) (tA G W OX O O1 f)) (hm : X.mg "sum" = none := by assumption) (hg : Gl X "sum" := by rfl) (hc : X.calm = true := by rfl) (hK : X.K = G.K := by rfl)
    (he : starEach (x :: xs) X.env = (false, eval x X.env) :: starEach xs X.env := by rfl) (hpl : (backTo pos (starEach xs X.env)).any (·.1) = false := by rfl) : PE X (.Call (.Name "sum" pp) (x :: xs) [] pos) (tE G W OX O O1 (eN pSum f)) :=
  e_cB pSum (cr_sum hc) (fun σ F H r ds vs d Q S rs e q => by
    unfold pSum at e
    split at e
    · obtain ⟨l, e1, e2⟩ := Option.bind_eq_some_iff.mp e
      obtain ⟨ns, e3, e4⟩ := Option.map_eq_some_iff.mp e2
      subst e4
      cases rs with
      | cons r1 rr =>
        cases rr
        obtain ⟨a, xs, rfl, hq, rl⟩ := lis_of r1 e1
        rw [toInts_eq e3] at rl
        rw [hK]
        exact ⟨a, ns, rfl, by rw [← rl.ints]; exact hq H S.sub, q.ok S .int⟩
    · cases e) ha hm (hg := hg) (he := he) (hpl := hpl)
theorem e_all {x : Expr} {xs : List Expr} {pp pos : Pos} {f : M (List D)} (ha : PA X (x :: xs) (tA G W OX O O1 f)) (hm : X.mg "all" = none := by assumption) (hg : Gl X "all" := by rfl) (hc : X.calm = true := by rfl) (hK : X.K = G.K := by rfl)
    (he : starEach (x :: xs) X.env = (false, eval x X.env) :: starEach xs X.env := by rfl) (hpl : (backTo pos (starEach xs X.env)).any (·.1) = false := by rfl) : PE X (.Call (.Name "all" pp) (x :: xs) [] pos) (tE G W OX O O1 (eN pAll f)) :=
  e_cB pAll (cr_all hc) (fun σ F H r ds vs d Q S rs e q => by
    unfold pAll at e
    split at e
    · obtain ⟨l, e1, e2⟩ := Option.bind_eq_some_iff.mp e
      obtain ⟨ns, e3, e4⟩ := Option.map_eq_some_iff.mp e2
      subst e4
      cases rs with
      | cons r1 rr =>
        cases rr
        obtain ⟨a, xs, rfl, hq, rl⟩ := lis_of r1 e1
        rw [toBls_eq e3] at rl
        rw [hK]
        exact ⟨a, ns, rfl, by rw [← rl.bls]; exact hq H S.sub, q.ok S .bl⟩
    · cases e) ha hm (hg := hg) (he := he) (hpl := hpl)
theorem e_any {x : Expr} {xs : List Expr} {pp pos : Pos} {f : M (List D)} (ha : PA X (x :: xs) (tA G W OX O O1 f)) (hm : X.mg "any" = none := by assumption) (hg : Gl X "any" := by rfl) (hc : X.calm = true := by rfl) (hK : X.K = G.K := by rfl)
    (he : starEach (x :: xs) X.env = (false, eval x X.env) :: starEach xs X.env := by rfl) (hpl : (backTo pos (starEach xs X.env)).any (·.1) = false := by rfl) : PE X (.Call (.Name "any" pp) (x :: xs) [] pos) (tE G W OX O O1 (eN pAny f)) :=
  e_cB pAny (cr_any hc) (fun σ F H r ds vs d Q S rs e q => by
    unfold pAny at e
    split at e
    · obtain ⟨l, e1, e2⟩ := Option.bind_eq_some_iff.mp e
      obtain ⟨ns, e3, e4⟩ := Option.map_eq_some_iff.mp e2
      subst e4
      cases rs with
      | cons r1 rr =>
        cases rr
        obtain ⟨a, xs, rfl, hq, rl⟩ := lis_of r1 e1
        rw [toBls_eq e3] at rl
        rw [hK]
        exact ⟨a, ns, rfl, by rw [← rl.bls]; exact hq H S.sub, q.ok S .bl⟩
    · cases e) ha hm (hg := hg) (he := he) (hpl := hpl)
theorem e_tuple {x : Expr} {xs : List Expr} {pp pos : Pos} {f : M (List D)} (ha : PA X (x :: xs) (tA G W OX O O1 f)) (hm : X.mg "tuple" = none := by assumption) (hg : Gl X "tuple" := by rfl) (hK : X.K = G.K := by rfl)
    (he : starEach (x :: xs) X.env = (false, eval x X.env) :: starEach xs X.env := by rfl) (hpl : (backTo pos (starEach xs X.env)).any (·.1) = false := by rfl) : PE X (.Call (.Name "tuple" pp) (x :: xs) [] pos) (tE G W OX O O1 (eN pTuple f)) :=
  e_cT pTuple call_tuple_of (fun σ F H r ds vs d Q S rs e q => by
    unfold pTuple at e
    split at e
    · obtain ⟨l, e1, e2⟩ := Option.map_eq_some_iff.mp e
      subst e2
      cases rs with
      | cons r1 rr =>
        cases rr
        rw [hK]
        obtain ⟨a, xs, rfl, hq, rl⟩ := r1.itemsF e1
        rcases hq with hq | hq
        · exact ⟨a, xs, rfl, .inl ⟨S.sub.sqL hq, fun p hp => q.fz S hp rfl fun F' hF sb => .tup (.inl (.inl hF)) (rl.mono sb)⟩⟩
        · exact ⟨a, xs, rfl, .inr ⟨S.sub.sqT hq, q.ok S (.tup hq rl)⟩⟩
    · cases e) ha hm (hg := hg) (he := he) (hpl := hpl)
theorem e_gcd {x : Expr} {xs : List Expr} {pp pos : Pos} {f : M (List D)} {nm : Str} (ha : PA X (x :: xs) (tA G W OX O O1 f)) (hm : X.mg nm = some (.builtin "math.gcd")) (hg : Gl X nm := by rfl) (hdb : (nm == ("__debug__" : Str)) = false := by decide)
    (he : starEach (x :: xs) X.env = (false, eval x X.env) :: starEach xs X.env := by rfl) (hpl : (backTo pos (starEach xs X.env)).any (·.1) = false := by rfl) : PE X (.Call (.Name nm pp) (x :: xs) [] pos) (tE G W OX O O1 (eN pGcd f)) :=
  e_cM pGcd cr_gcd (fun σ F H r ds vs d Q S rs e q => by
    unfold pGcd at e
    split at e
    · cases e
      cases rs with
      | cons r1 rr =>
        cases rr with
        | cons r2 rr => cases rr; cases r1; cases r2; exact ⟨_, _, rfl, q.ok S .int⟩
    · cases e) ha hm hg hdb he hpl
theorem e_max2 {x : Expr} {xs : List Expr} {pp pos : Pos} {f : M (List D)} (ha : PA X (x :: xs) (tA G W OX O O1 f)) (hm : X.mg "max" = none := by assumption) (hg : Gl X "max" := by rfl) (hc : X.calm = true := by rfl)
    (he : starEach (x :: xs) X.env = (false, eval x X.env) :: starEach xs X.env := by rfl) (hpl : (backTo pos (starEach xs X.env)).any (·.1) = false := by rfl) : PE X (.Call (.Name "max" pp) (x :: xs) [] pos) (tE G W OX O O1 (eN pMax2 f)) :=
  e_cB pMax2 (call_max2 hc) (fun σ F H r ds vs d Q S rs e q => by
    unfold pMax2 at e
    split at e
    · cases e
      cases rs with
      | cons r1 rr =>
        cases rr with
        | cons r2 rr => cases rr; cases r1; cases r2; exact ⟨_, _, rfl, q.ok S .int⟩
    · cases e) ha hm (hg := hg) (he := he) (hpl := hpl)
theorem e_min2 {x : Expr} {xs : List Expr} {pp pos : Pos} {f : M (List D)} (ha : PA X (x :: xs) (tA G W OX O O1 f)) (hm : X.mg "min" = none := by assumption) (hg : Gl X "min" := by rfl) (hc : X.calm = true := by rfl)
    (he : starEach (x :: xs) X.env = (false, eval x X.env) :: starEach xs X.env := by rfl) (hpl : (backTo pos (starEach xs X.env)).any (·.1) = false := by rfl) : PE X (.Call (.Name "min" pp) (x :: xs) [] pos) (tE G W OX O O1 (eN pMin2 f)) :=
  e_cB pMin2 (call_min2 hc) (fun σ F H r ds vs d Q S rs e q => by
    unfold pMin2 at e
    split at e
    · cases e
      cases rs with
      | cons r1 rr =>
        cases rr with
        | cons r2 rr => cases rr; cases r1; cases r2; exact ⟨_, _, rfl, q.ok S .int⟩
    · cases e) ha hm (hg := hg) (he := he) (hpl := hpl)
/-- list(e): a new list of this code's own -/
theorem e_listF {x : Expr} {xs : List Expr} {pp pos : Pos} {f : M (List D)} (ha : PA X (x :: xs) (tA G W OX O O1 f)) (hm : X.mg "list" = none := by assumption) (hg : Gl X "list" := by rfl) (hK : X.K = G.K := by rfl)
    (he : starEach (x :: xs) X.env = (false, eval x X.env) :: starEach xs X.env := by rfl) (hpl : (backTo pos (starEach xs X.env)).any (·.1) = false := by rfl) : PE X (.Call (.Name "list" pp) (x :: xs) [] pos) (tF G W OX O O1 (eN pList f)) :=
  (pe_callTy call_list_of hg hm (by decide +kernel) ha (by decide) (by decide) he hpl).imp fun σ H Q ⟨F, r, S, q⟩ => tX_bind S q fun ds vs F1 H1 r1 n1 rs q => by
    revert q
    cases e : pList ds with
    | none => exact fun q => q.elim
    | some d =>
      intro q
      unfold pList at e
      split at e
      · obtain ⟨l, e1, e2⟩ := Option.map_eq_some_iff.mp e
        subst e2
        cases rs with
        | cons r1 rr =>
          cases rr
          rw [hK]
          obtain ⟨a, ys, rfl, hq, rl⟩ := r1.items n1.sta.sub e1
          refine ⟨a, ys, rfl, hq, fun p hp => ?_⟩
          obtain ⟨S2, s2, fp⟩ := new_ow (o := .lst ys) n1.sta hp rfl
          refine q _ F1 _ (Nx.of S2 s2 fun _ h => h) ⟨.lst upd_same fp rl, fun b eb => ?_⟩
          cases eb
          refine ⟨n1.stp.tr _ hp, fun ⟨i, hi, ei⟩ => ?_⟩
          obtain ⟨d', v', _, e2', ow⟩ := n1.sta.ow i hi
          rw [ei] at e2'
          cases e2'
          obtain ⟨b, o, eb, hb⟩ := ow.there
          cases eb
          rw [hp] at hb
          cases hb
      · cases e

/-! ### isinstance -/
def tyN : D → Option String
  | .non => some "NoneType"
  | .bl _ => some "bool"
  | .int _ => some "int"
  | .str _ => some "str"
  | .tup _ => some "tuple"
  | .lst _ => some "list"
  | .kl _ => some "list"
  | .dic _ _ => some "dict"
  | _ => none
def bTys : List String := ["int", "bool", "str", "list", "tuple", "dict"]
/-- isinstance by a built-in type -/
def kT (cls : List Nat) (n : String) (x : D) : Option Bool := match x with
  | .ob c _ => if cls.contains c then some false else none
  | x => (tyN x).map fun m => m == n || (m == "bool" && n == "int")
/-- .. by a class of the text: the classes that are of it -/
def kO (tb : List (Nat × Bool)) (x : D) : Option Bool := match x with
  | .ob c _ => tb.lookup c
  | x => (tyN x).map fun _ => false
def kAny (ks : List (D → Option Bool)) (x : D) : Option Bool := match ks with
  | [] => some false
  | k :: ks => (k x).bind fun b => if b then some true else kAny ks x
@[simp] def eIsi (k : D → Option Bool) (f : M D) : M D := fun r => (f r).bind fun x r1 => match k x with
  | some b => .ok (.bl b) r1
  | none => .no
structure TyOk (G : Gm) (c : Nat) : Prop where
  cl : Cls G.K (G.cA c)
  ha : PySem.W.findIn G.K (.ref (G.cA c)) "__class__" = some (some (.builtin "object.__class__"))
  hn : PySem.W.specialIn G.K (.builtin "object.__class__") "__get__" = some (some (.builtin "getset_descriptor.__get__"))
  ht : PySem.W.takesIn G.K (.builtin "object.__class__") = some true
  hm : PySem.W.mroIn G.K (G.cA c) (.type "object") = some true
/-- the tree's type -/
def tyV (G : Gm) : D → Option Value
  | .ob c _ => some (.ref (G.cA c))
  | x => (tyN x).map Value.type
theorem Rep.ty {F H : Hp} {x : D} {v : V} {t : Value} (sb : Sub F H) (h : Rep G F x v) (ht : ∀ c l, x = .ob c l → TyOk G c) (e : tyV G x = some t) : TyX G.K H v t := by
  cases h with
  | non => cases e; exact .base .non
  | bl => cases e; exact .base (.bl _)
  | int => cases e; exact .base (.int _)
  | str => cases e; exact .base (.str _)
  | tup h r =>
    cases e
    rcases sb.sqT h with (e | ⟨o, e⟩) | ⟨o, its, n, e, c, _⟩
    · exact .base (.tup e)
    · exact .fTuple e
    · exact .kTuple e c
  | lst h r =>
    cases e
    obtain ⟨o', e', g⟩ := sb _ _ h
    rw [g.lst] at e'
    exact .base (.lst e')
  | kl h r =>
    cases e
    rcases sb.sqL h with (e | ⟨o, e⟩) | ⟨o, its, n, e, c, _⟩
    · exact .base (.lst e)
    · exact .base (.frz e)
    · exact .kList e c
  | dic h _ r =>
    cases e
    obtain ⟨o', e', g⟩ := sb _ _ h
    rw [g.dK] at e'
    exact .base (.dK e')
  | @ob c l a dx xs more h hl r =>
    cases e
    obtain ⟨o', e', g⟩ := sb _ _ h
    obtain ⟨m, eo⟩ := g.ins
    subst eo
    have k := ht c l rfl
    exact .base (.ins e' k.cl k.ha k.hn k.ht k.hm)
/-- k answers isinstance(x, u) -/
structure Kn (G : Gm) (u : Value) (k : D → Option Bool) : Prop where
  at_ : ∀ x b, k x = some b → ∃ t, tyV G x = some t ∧ (∀ c l, x = .ob c l → TyOk G c) ∧ PySem.W.kitOne G.K t u = some b
def allTy : List String := ["NoneType", "bool", "int", "str", "tuple", "list", "dict"]
theorem kitB_all : (allTy.all fun m => bTys.all fun n => kitB m n == some (m == n || (m == "bool" && n == "int"))) = true := by decide +kernel
theorem tyN_in {x : D} {m : String} (e : tyN x = some m) : m ∈ allTy := by
  cases x <;> simp [tyN] at e <;> subst e <;> decide
theorem tyV_of {x : D} {m : String} (e : tyN x = some m) : tyV G x = some (.type m) := by
  cases x <;> simp [tyN] at e <;> subst e <;> rfl
theorem kn_ty {n : String} (cls : List Nat) (hc : ∀ c ∈ cls, TyOk G c ∧ PySem.W.kitOne G.K (.ref (G.cA c)) (.type n) = some false) (hn : n ∈ bTys := by decide) : Kn G (.type n) (kT cls n) := ⟨fun x b e => by
  have key : ∀ m, tyN x = some m → (tyN x).map (fun m => m == n || (m == "bool" && n == "int")) = some b → ∃ t, tyV G x = some t ∧ (∀ c l, x = .ob c l → TyOk G c) ∧ PySem.W.kitOne G.K t (.type n) = some b := fun m e1 e => by
    rw [e1] at e
    refine ⟨.type m, tyV_of e1, fun c l z => (by subst z; cases e1), ?_⟩
    have h := List.all_eq_true.mp (List.all_eq_true.mp kitB_all m (tyN_in e1)) n hn
    rw [beq_iff_eq] at h
    exact (kit_ty h).trans e
  cases x with
  | ob c l =>
    unfold kT at e
    split at e
    · rename_i c' l' z
      cases z
      split at e
      · rename_i hm
        cases e
        obtain ⟨h1, h2⟩ := hc c (by simpa using hm)
        exact ⟨_, rfl, fun c' l' z => (by cases z; exact h1), h2⟩
      · cases e
    · rename_i h
      exact absurd rfl (h c l)
  | xo c l => cases e
  | non => exact key _ rfl e
  | bl b => exact key _ rfl e
  | int i => exact key _ rfl e
  | str s => exact key _ rfl e
  | tup l => exact key _ rfl e
  | lst l => exact key _ rfl e
  | kl l => exact key _ rfl e
  | dic ks l => exact key _ rfl e⟩
theorem kn_own {k : Nat} (tb : List (Nat × Bool)) (hc : ∀ c b, tb.lookup c = some b → TyOk G c ∧ PySem.W.kitOne G.K (.ref (G.cA c)) (.ref (G.cA k)) = some b) (hb : ∀ m ∈ allTy, PySem.W.kitOne G.K (.type m) (.ref (G.cA k)) = some false) : Kn G (.ref (G.cA k)) (kO tb) := ⟨fun x b e => by
  have key : ∀ m, tyN x = some m → (tyN x).map (fun _ => false) = some b → ∃ t, tyV G x = some t ∧ (∀ c l, x = .ob c l → TyOk G c) ∧ PySem.W.kitOne G.K t (.ref (G.cA k)) = some b := fun m e1 e => by
    rw [e1] at e
    cases e
    exact ⟨.type m, tyV_of e1, fun c l z => (by subst z; cases e1), hb m (tyN_in e1)⟩
  cases x with
  | ob c l =>
    obtain ⟨h1, h2⟩ := hc c b e
    exact ⟨_, rfl, fun c' l' z => (by cases z; exact h1), h2⟩
  | xo c l => cases e
  | non => exact key _ rfl e
  | bl b => exact key _ rfl e
  | int i => exact key _ rfl e
  | str s => exact key _ rfl e
  | tup l => exact key _ rfl e
  | lst l => exact key _ rfl e
  | kl l => exact key _ rfl e
  | dic ks l => exact key _ rfl e⟩
/-- the class in isinstance(x, C): its value -/
structure CVl (X : Cx) (c : Expr) (v : V) (u : Value) : Prop where
  pe : PE X c (tC v)
  cv : ClsV v u
theorem cv_ty {x : Str} {n : String} {pos : Pos} (hm : X.mg x = none := by assumption) (hv : bootBuiltins x = some (.type n) := by decide +kernel) (hg : Gl X x := by rfl) (hn : x ≠ "__name__" := by decide) (hdb : (x == ("__debug__" : Str)) = false := by decide) : CVl X (.Name x pos) (.ty n) (.type n) :=
  ⟨⟨fun pins s σ H Q I q => ld_blt I hg hm hv ⟨.ty n, H, I, rfl, q⟩ hn hdb⟩, .ty n⟩
theorem cv_own {x : Str} {C : Addr} {pos : Pos} (hm : X.mg x = some (.ref C)) (hg : Gl X x := by rfl) (hdb : (x == ("__debug__" : Str)) = false := by decide) : CVl X (.Name x pos) (.ref C) (.ref C) :=
  ⟨pe_glob hg hm rfl hdb, .own C⟩
theorem e_isi {e c : Expr} {pp pos : Pos} {f : M D} {v : V} {u : Value} {k : D → Option Bool} (he : PE X e (tE G W OX O O1 f)) (hc : CVl X c v u) (hk : Kn G u k) (hm : X.mg "isinstance" = none := by assumption) (hg : Gl X "isinstance" := by rfl) (hK : X.K = G.K := by rfl)
    (hs : starEach [e, c] X.env = (false, eval e X.env) :: starEach [c] X.env := by rfl) (hs2 : starEach [c] X.env = (false, eval c X.env) :: starEach [] X.env := by rfl) (hpl : (backTo pos (starEach [c] X.env)).any (·.1) = false := by rfl) :
    PE X (.Call (.Name "isinstance" pp) [e, c] [] pos) (tE G W OX O O1 (eIsi k f)) :=
  (pe_callB call_isi hg hm (by decide +kernel) (pa_cons he (pa_cons hc.pe pa_nil hs2) hs) (by decide) (by decide) hs hpl).imp fun σ H Q ⟨F, r, S, q⟩ => tX_bind S q fun x w F1 H1 r1 n1 rx q => by
    revert q
    cases e1 : k x with
    | none => exact fun q => q.elim
    | some b =>
      intro q
      obtain ⟨t, e2, e3, e4⟩ := hk.at_ x b e1
      rw [hK]
      exact ⟨w, v, t, u, b, rfl, hc.cv, rx.ty n1.sta.sub e3 e2, e4, q.ok n1.sta .bl⟩
/-- isinstance(x, (C, ..)) -/
structure CVs (G : Gm) (X : Cx) (cs : List Expr) (vs : List V) (us : List Value) (ks : List (D → Option Bool)) : Prop where
  pa : PA X cs (fun σ H Q => Q vs H)
  cv : Paired ClsV vs us
  kn : ∀ x b, kAny ks x = some b → cs ≠ [] → ∃ t, tyV G x = some t ∧ (∀ c l, x = .ob c l → TyOk G c) ∧ PySem.W.kitAny G.K t us = some b
theorem cvs_nil : CVs G X [] [] [] [] := ⟨pa_nil, .nil, fun _ _ _ z => absurd rfl z⟩
theorem cvs_cons {c : Expr} {cs : List Expr} {v : V} {vs : List V} {u : Value} {us : List Value} {k : D → Option Bool} {ks : List (D → Option Bool)} (h : CVl X c v u) (hk : Kn G u k) (ht : CVs G X cs vs us ks) (hs : starEach (c :: cs) X.env = (false, eval c X.env) :: starEach cs X.env := by rfl)
    (h0 : cs = [] → us = [] ∧ ks = [] := by first | exact fun _ => ⟨rfl, rfl⟩ | exact fun z => nomatch z) : CVs G X (c :: cs) (v :: vs) (u :: us) (k :: ks) := by
  refine ⟨pa_cons h.pe ht.pa hs, .cons h.cv ht.cv, fun x b e _ => ?_⟩
  unfold kAny at e
  obtain ⟨b1, e1, e2⟩ := Option.bind_eq_some_iff.mp e
  obtain ⟨t, h1, h2, h3⟩ := hk.at_ x b1 e1
  refine ⟨t, h1, h2, kitAny_cons h3 (fun z => ?_) fun z => ?_⟩
  · rw [if_neg (by simp [z])] at e2
    by_cases hc : cs = []
    · obtain ⟨q1, q2⟩ := h0 hc
      subst q1 q2
      cases e2
      exact kitAny_nil
    · obtain ⟨t', h4, _, h5⟩ := ht.kn x b e2 hc
      rw [h1] at h4
      cases h4
      exact h5
  · rw [if_pos z] at e2
    cases e2
    rfl
theorem e_isT {e c : Expr} {cs : List Expr} {kk : Nat} {pp pt pos : Pos} {f : M D} {v : List V} {u : List Value} {ks : List (D → Option Bool)} (he : PE X e (tE G W OX O O1 f)) (hc : CVs G X (c :: cs) v u ks) (hm : X.mg "isinstance" = none := by assumption) (hg : Gl X "isinstance" := by rfl) (hK : X.K = G.K := by rfl)
    (hz : v.length ≤ 64 := by decide)
    (hs : starEach [e, .Tuple (c :: cs) kk pt] X.env = (false, eval e X.env) :: starEach [.Tuple (c :: cs) kk pt] X.env := by rfl) (hs2 : starEach [.Tuple (c :: cs) kk pt] X.env = (false, eval (.Tuple (c :: cs) kk pt) X.env) :: starEach [] X.env := by rfl) (hpl : (backTo pos (starEach [.Tuple (c :: cs) kk pt] X.env)).any (·.1) = false := by rfl) :
    PE X (.Call (.Name "isinstance" pp) [e, .Tuple (c :: cs) kk pt] [] pos) (tE G W OX O O1 (eIsi (kAny ks) f)) :=
  have ht : PE X (.Tuple (c :: cs) kk pt) (fun σ H Q => ∀ p, H p = none → Q (.ref p) (upd H p (.tup v))) := (pe_tup hc.pa).imp fun σ H Q q => ⟨Nat.le_trans hz (by rw [sizeLine_eq]; decide), q⟩
  (pe_callB call_isiT hg hm (by decide +kernel) (pa_cons he (pa_cons ht pa_nil hs2) hs) (by decide) (by decide) hs hpl).imp fun σ H Q ⟨F, r, S, q⟩ => tX_bind S q fun x w F1 H1 r1 n1 rx q => by
    revert q
    cases e1 : kAny ks x with
    | none => exact fun q => q.elim
    | some b =>
      intro q p hp
      obtain ⟨t, e2, e3, e4⟩ := hc.kn x b e1 (fun z => nomatch z)
      obtain ⟨S2, s2⟩ := new_fz (o := .tup v) n1.sta hp rfl
      rw [hK]
      exact ⟨w, p, v, t, u, b, rfl, upd_same, hc.cv, (rx.mono s2.fz).ty S2.sub e3 e2, e4, q _ _ _ (Nx.of S2 s2 fun _ h => h) .bl⟩
end
end Z

/-! Assignment, attribute stores, own lists. -/
namespace Z
open PySem PySem.Spec PyProof.Rows L2

/-- target = value, several names -/
@[simp] def sTg (g : Tg) (f : M D) : M Fl := fun r => (f r).bind fun d r1 => match g d r1 with
  | some r2 => .ok .nx r2
  | none => .no
@[simp] def sPar (gs : List Tg) (f : M (List D)) : M Fl := fun r => (f r).bind fun ds r1 => match gTs gs ds r1 with
  | some r2 => .ok .nx r2
  | none => .no
/-- a new object of this code's own in a slot -/
@[simp] def sAsF (i : Nat) (f : M D) : M Fl := fun r => (f r).bind fun d r1 => if i < r1.length then .ok .nx (r1.set i (some d)) else .no
@[simp] def sFl (i : Nat) (tb : List (Nat × Nat)) (f : M D) : M Fl := fun r => (f r).bind fun d r1 => match r1[i]? with
  | some (some (.ob c l)) => (match tb.lookup c with
    | some j => if j = l.length then .ok .nx (r1.set i (some (.ob c (l ++ [d])))) else .no
    | none => .no)
  | _ => .no
def ixSet (l : List D) (y d : D) : Option (List D) := match y with
  | .int k => (ixN l.length k).map fun j => l.set j d
  | _ => none
@[simp] def sIx (i : Nat) (f g : M D) : M Fl := fun r => (f r).bind fun d r1 => (g r1).bind fun y r2 => match r2[i]? with
  | some (some (.lst l)) => (match ixSet l y d with
    | some m => .ok .nx (r2.set i (some (.lst m)))
    | none => .no)
  | _ => .no

section
variable {G : Gm} {X : Cx} {W : WX} {OX OL vs O O1 O2 O3 : List Nat}
theorem s_asg {tg e : Expr} {pos : Pos} {g : Tg} {f : M D} (he : PE X e (tE G W OX O O1 f)) (hg : PG X tg (tG G OX vs O1 O2 g)) (hs : swapsWithSole [tg] e pos.line X.env = pure false := by rfl) (hw : swappedStores [tg] e X.env = pure none := by rfl) (h1 : (assignEach [tg] X.env).map (·.2) = [assign tg X.env] := by rfl) :
    PS X (.Assign [tg] e pos) (tS G W OX OL O O2 (sTg g f)) :=
  (ps_asg he hg hs hw h1).imp fun Dn σ H ⟨F, r, S, p⟩ => tS_bind S p fun d v F1 H1 r1 n1 rd p => by
    revert p
    cases e1 : g d r1 with
    | none => exact fun p => p.elim
    | some r2 => exact fun p => ⟨F1, r1, d, r2, n1.sta, rd, e1, fun σ2 n2 _ => p σ2 F1 H1 n2⟩
theorem s_par2 {x y : Str} {a b : Expr} {px py pt pos : Pos} {kt k2 pt2} {f : M (List D)} (i j : Nat) (ha : PA X [a, b] (tA G W OX O O1 f)) (hx1 : i ∉ OX := by decide) (hx2 : j ∉ OX := by decide) (hij : i ≠ j := by decide) (hN : X.N.Nodup := by first | assumption | decide +kernel) (hi : X.N[i]? = some x := by rfl) (hj : X.N[j]? = some y := by rfl)
    (hx : X.env.scope.names.lookup x = some .local := by rfl) (hy : X.env.scope.names.lookup y = some .local := by rfl) (hc : X.calm = true := by rfl) (hw : swappedStores [.Tuple [.Name x px, .Name y py] kt pt] (.Tuple [a, b] k2 pt2) X.env = pure (some [x, y]) := by rfl)
    (hs : swapsWithSole [.Tuple [.Name x px, .Name y py] kt pt] (.Tuple [a, b] k2 pt2) pos.line X.env = pure false := by rfl) : PS X (.Assign [.Tuple [.Name x px, .Name y py] kt pt] (.Tuple [a, b] k2 pt2) pos) (tS G W OX OL O ((O1.filter (· != i)).filter (· != j)) (sPar [gN i, gN j] f)) :=
  (ps_par hc hN hi hj hij hx hy ha hw hs).imp fun Dn σ H ⟨F, r, S, p⟩ => tS_bind S p fun ds vs F1 H1 r1 n1 rs p => by
    match rs, p with
    | .cons ra (.cons rb .nil), p =>
      have m1 := nx_set (OX := OX) i n1.sta ra hx1
      have m2 := nx_set (OX := OX) j m1.sta rb hx2
      exact ⟨_, _, rfl, p _ _ _ (m1.trans m2)⟩
    | .nil, p => exact p.elim
    | .cons _ .nil, p => exact p.elim
    | .cons _ (.cons _ (.cons _ _)), p => exact p.elim
theorem s_par3 {x y z : Str} {a b c : Expr} {px py pz pt pos : Pos} {kt k2 pt2} {f : M (List D)} (i j l : Nat) (ha : PA X [a, b, c] (tA G W OX O O1 f)) (hx1 : i ∉ OX := by decide) (hx2 : j ∉ OX := by decide) (hx3 : l ∉ OX := by decide) (hij : i ≠ j := by decide) (hil : i ≠ l := by decide) (hjl : j ≠ l := by decide) (hN : X.N.Nodup := by first | assumption | decide +kernel) (hi : X.N[i]? = some x := by rfl) (hj : X.N[j]? = some y := by rfl) (hl : X.N[l]? = some z := by rfl)
    (hx : X.env.scope.names.lookup x = some .local := by rfl) (hy : X.env.scope.names.lookup y = some .local := by rfl) (hz : X.env.scope.names.lookup z = some .local := by rfl) (hc : X.calm = true := by rfl) (hw : swappedStores [.Tuple [.Name x px, .Name y py, .Name z pz] kt pt] (.Tuple [a, b, c] k2 pt2) X.env = pure (some [x, y, z]) := by rfl)
    (hs : swapsWithSole [.Tuple [.Name x px, .Name y py, .Name z pz] kt pt] (.Tuple [a, b, c] k2 pt2) pos.line X.env = pure false := by rfl) : PS X (.Assign [.Tuple [.Name x px, .Name y py, .Name z pz] kt pt] (.Tuple [a, b, c] k2 pt2) pos) (tS G W OX OL O (((O1.filter (· != i)).filter (· != j)).filter (· != l)) (sPar [gN i, gN j, gN l] f)) :=
  (ps_par3 hc hN hi hj hl hij hil hjl hx hy hz ha hw hs).imp fun Dn σ H ⟨F, r, S, p⟩ => tS_bind S p fun ds vs F1 H1 r1 n1 rs p => by
    match rs, p with
    | .cons ra (.cons rb (.cons rc .nil)), p =>
      have m1 := nx_set (OX := OX) i n1.sta ra hx1
      have m2 := nx_set (OX := OX) j m1.sta rb hx2
      have m3 := nx_set (OX := OX) l m2.sta rc hx3
      exact ⟨_, _, _, rfl, p _ _ _ ((m1.trans m2).trans m3)⟩
    | .nil, p => exact p.elim
    | .cons _ .nil, p => exact p.elim
    | .cons _ (.cons _ .nil), p => exact p.elim
    | .cons _ (.cons _ (.cons _ (.cons _ _))), p => exact p.elim
/-- a new object is bound -/
theorem own_set {σ : L2.St} {F H F1 H1 : Hp} {r1 : Ev} {d : D} {v : V} (i : Nat) (n1 : Nx G OX O O1 σ F H σ F1 H1 r1) (h : RF G O1 σ H F1 H1 d v) (hi : i < r1.length) (hx : i ∉ OX) : Nx G OX O (i :: O1.filter (· != i)) σ F H (σ.set i (some v)) F1 H1 (r1.set i (some d)) := by
  refine ⟨n1.sta.setOwn i h.1 hi fun a ea => (h.2 a ea).2, n1.stp, fun j hj => ?_, fun a m => ?_⟩
  · exact List.getElem?_set_ne (fun z : i = j => hx (by rw [z]; exact hj))
  · obtain ⟨j, hj, e⟩ := m
    by_cases q : i = j
    · subst q
      rw [List.getElem?_set_self (by rw [← n1.sta.len]; exact hi)] at e
      cases e
      exact .inr (h.2 a rfl).1
    · rcases List.mem_cons.mp hj with z | hj
      · exact absurd z.symm q
      rw [List.getElem?_set_ne q] at e
      exact n1.pv a ⟨j, (List.mem_filter.mp hj).1, e⟩
theorem asF_of {σ : L2.St} {H : Hp} {f : M D} {i : Nat} {Dn : Ends} (hx : i ∉ OX) (h : tS G W OX OL O (i :: O1.filter (· != i)) (sAsF i f) Dn σ H) : tF G W OX O O1 f σ H fun v H1 => Dn.nx (σ.set i (some v)) H1 := by
  obtain ⟨F, r, S, p⟩ := h
  refine ⟨F, r, S, ?_⟩
  simp only [sAsF] at p
  revert p
  cases f r with
  | no => exact fun p => p.elim
  | ex e q => exact fun p c dx F' H' n x => p c dx σ F' H' n x
  | ok d r1 =>
    intro p v F1 H1 n1 rf
    have p : PstS G W OX OL O (i :: O1.filter (· != i)) σ F H Dn (if i < r1.length then .ok .nx (r1.set i (some d)) else .no) := p
    split at p
    · rename_i hi
      exact p _ _ _ (own_set i n1 rf hi hx)
    · exact p.elim
theorem s_setF {x : Str} {e : Expr} {pos pos' : Pos} {f : M D} (i : Nat) (he : PE X e (tF G W OX O O1 f)) (hx : i ∉ OX := by decide) (hN : X.N.Nodup := by first | assumption | decide +kernel) (hi : X.N[i]? = some x := by rfl) (hl : Loc X.env.scope x := by first | exact Or.inl rfl | exact Or.inr rfl)
    (hs : swapsWith e (some (.Name x pos')) pos.line X.env = pure false := by rfl) (hf : X.fn x = true ∨ X.env.scope.names.lookup x = some .local := by first | exact .inl rfl | exact .inr rfl | assumption) :
    PS X (.Assign [.Name x pos'] e pos) (tS G W OX OL O (i :: O1.filter (· != i)) (sAsF i f)) :=
  (ps_set hN hi hl he hs hf).imp fun Dn σ H h => asF_of hx h
/-- name = [.. for ..] on one line -/
theorem s_setLcF {x : Str} {pos' : Pos} {elt tg iter : Expr} {ifs : List Expr} {scope : Scope} {pos spos : Pos} {it : M (List D)} {g : Tg} {t : M Bool} {f : M D} (i : Nat) (own : List (Str × Nat)) (hvs : own.map (·.2) = vs) (hi : PI X tg iter (iIt G W OX O O1 it)) (ok : BlkOk X.N X.env.scope scope own)
    (hg : ∀ (s : Shared) (H : Hp) (C : Addr) (cl : List (Str × Addr)) (fp : List Addr), PG (X.blk s H scope (compEnvC scope cl C X.env) fp) tg (tG G [] vs O1 O1 g)) (ht : ∀ (s : Shared) (H : Hp) (C : Addr) (cl : List (Str × Addr)) (fp : List Addr), PTs (X.blk s H scope (compEnvC scope cl C X.env) fp) ifs (tT G (fun _ _ _ _ => False) [] O1 O1 t))
    (he : ∀ (s : Shared) (H : Hp) (C : Addr) (cl : List (Str × Addr)) (fp : List Addr), PE (X.blk s H scope (compEnvC scope cl C X.env) fp) elt (tE G (fun _ _ _ _ => False) [] O1 O1 f)) (hsw : swapsWith (.ListComp elt [⟨tg, iter, ifs, 0⟩] scope pos) (some (.Name x pos')) spos.line X.env = pure true := by rfl) (hx : i ∉ OX := by decide) (hN : X.N.Nodup := by first | assumption | decide +kernel) (hy : X.N[i]? = some x := by rfl)
    (hyl : X.env.scope.names.lookup x = some .local := by rfl) (hd : ∀ i ∈ vs, i ∉ O1 := by decide) (hc : X.calm = true := by rfl) (hs : ∀ x, foldedSetIterable iter X.env x = pure x := by intro _; rfl) :
    PS X (.Assign [.Name x pos'] (.ListComp elt [⟨tg, iter, ifs, 0⟩] scope pos) spos) (tS G W OX OL O (i :: O1.filter (· != i)) (sAsF i (eLc vs it g t f))) :=
  (ps_setLc hc hN hy hyl hsw hi ok hg ht he hs).imp fun Dn σ H h => lc_imp hvs hd σ H _ (asF_of hx h)
theorem s_setLc {x : Str} {pos' : Pos} {elt tg iter : Expr} {ifs : List Expr} {scope : Scope} {pos spos : Pos} {it : M (List D)} {g : Tg} {t : M Bool} {f : M D} (i : Nat) (own : List (Str × Nat)) (hvs : own.map (·.2) = vs) (hi : PI X tg iter (iIt G W OX O O1 it)) (ok : BlkOk X.N X.env.scope scope own)
    (hg : ∀ (s : Shared) (H : Hp) (C : Addr) (cl : List (Str × Addr)) (fp : List Addr), PG (X.blk s H scope (compEnvC scope cl C X.env) fp) tg (tG G [] vs O1 O1 g)) (ht : ∀ (s : Shared) (H : Hp) (C : Addr) (cl : List (Str × Addr)) (fp : List Addr), PTs (X.blk s H scope (compEnvC scope cl C X.env) fp) ifs (tT G (fun _ _ _ _ => False) [] O1 O1 t))
    (he : ∀ (s : Shared) (H : Hp) (C : Addr) (cl : List (Str × Addr)) (fp : List Addr), PE (X.blk s H scope (compEnvC scope cl C X.env) fp) elt (tE G (fun _ _ _ _ => False) [] O1 O1 f)) (hsw : swapsWith (.ListComp elt [⟨tg, iter, ifs, 0⟩] scope pos) (some (.Name x pos')) spos.line X.env = pure true := by rfl) (hx : i ∉ OX := by decide) (hN : X.N.Nodup := by first | assumption | decide +kernel) (hy : X.N[i]? = some x := by rfl)
    (hyl : X.env.scope.names.lookup x = some .local := by rfl) (hd : ∀ i ∈ vs, i ∉ O1 := by decide) (hc : X.calm = true := by rfl) (hs : ∀ x, foldedSetIterable iter X.env x = pure x := by intro _; rfl) :
    PS X (.Assign [.Name x pos'] (.ListComp elt [⟨tg, iter, ifs, 0⟩] scope pos) spos) (tS G W OX OL O (O1.filter (· != i)) (sAs i (eLc vs it g t f))) :=
  (ps_setLc hc hN hy hyl hsw hi ok hg ht he hs).imp fun Dn σ H ⟨F, r, S, p⟩ => lc_imp hvs hd σ H _ (ffz (tS_bind S p fun d v F1 H1 r1 n1 rd p => p _ F1 H1 (nx_set i n1.sta rd hx)))
/-- an owned object is written -/
theorem Sta.wr {σ : L2.St} {F H : Hp} {r : Ev} {a : Addr} {o' : HO} {d' : D} (S : Sta G O F H σ r) {i : Nat} (hi : i ∈ O) (ev : σ[i]? = some (some (.ref a))) (ho : Own G F (upd H a o') d' (.ref a)) (sb : Sub F (upd H a o')) (wf : Wf G (upd H a o')) :
    Nx G OX O O σ F H σ F (upd H a o') (r.set i (some d')) := by
  have st : Stp (fun x => x = a) F H F (upd H a o') := ⟨.rfl', fun b u e n => by rw [upd_ne n]; exact e, fun _ _ _ _ => rfl, fun _ e => upd_none e⟩
  have hl : i < r.length := by
    obtain ⟨d, _, e, _⟩ := S.ow i hi
    exact (List.getElem?_eq_some_iff.mp e).1
  refine Nx.of ⟨sb, wf, by simp [S.len], fun j d hj e => ?_, fun j hj => ?_, S.dj⟩ (st.weak fun x z => ⟨i, hi, by rw [z]; exact ev⟩) fun _ h => h
  · rw [List.getElem?_set_ne (fun z : i = j => hj (z ▸ hi))] at e
    exact S.rp j d hj e
  · by_cases q : i = j
    · subst q
      exact ⟨d', .ref a, List.getElem?_set_self hl, ev, ho⟩
    · obtain ⟨dj, vj, e1, e2, oj⟩ := S.ow j hj
      exact ⟨dj, vj, by rw [List.getElem?_set_ne q]; exact e1, e2, oj.mono st fun b eb z => q (S.dj i j a hi hj ev (by rw [e2, eb, z]))⟩
theorem sub_wr {F H : Hp} {a : Addr} {o' : HO} (sb : Sub F H) (hf : F a = none) : Sub F (upd H a o') := fun b u e => by
  obtain ⟨o, e', g⟩ := sb b u e
  exact ⟨o, by rw [upd_ne fun z => (by rw [z, hf] at e; cases e)]; exact e', g⟩
theorem s_ix {x : Str} {b e : Expr} {pos pos' px : Pos} {f g : M D} (i : Nat) (he : PE X e (tE G W OX O O1 f)) (hb : PE X b (tE G W OX O1 O2 g)) (hO : i ∈ O1 := by decide) (hi : i ∈ O2 := by decide) (hN : X.N[i]? = some x := by rfl) (hv : Vis X.env.scope x := by first | exact Or.inl rfl | exact Or.inr (Or.inl rfl) | exact Or.inr (Or.inr rfl))
    (hd : (x == ("__debug__" : Str)) = false := by decide) (hcd : (x == ("__classdict__" : Str)) = false := by decide) (ha : ∀ v, assign (.Subscript (.Name x px) b pos') X.env v = (do
      let ov ← holding [v] (eval (.Name x px) X.env)
      let iv ← holding [v, ov] (eval b X.env)
      standAt pos'
      holding [v, ov, iv] (setItem ov iv v)
      release [v, ov, iv] []) := by intros; rfl) (hs : swapsWithSole [.Subscript (.Name x px) b pos'] e pos.line X.env = pure false := by rfl) (hw : swappedStores [.Subscript (.Name x px) b pos'] e X.env = pure none := by rfl) (h1 : (assignEach [.Subscript (.Name x px) b pos'] X.env).map (·.2) = [assign (.Subscript (.Name x px) b pos') X.env] := by rfl) :
    PS X (.Assign [.Subscript (.Name x px) b pos'] e pos) (tS G W OX OL O O2 (sIx i f g)) :=
  (ps_asg he (pg_sub (pe_var hN hv hd hcd) hb set_list ha) hs hw h1).imp fun Dn σ H ⟨F, r, S, p⟩ => tS_bind S p fun d v F1 H1 r1 n1 rd p => by
    obtain ⟨d0, v0, e1, e2, o0⟩ := n1.sta.ow i hO
    refine ⟨v0, e2, tS_bind n1.sta p fun y w F2 H2 r2 n2 ry p => ?_⟩
    revert p
    split
    · rename_i l e3
      intro p
      obtain ⟨v1, e4, o⟩ := n2.sta.own_at hi e3
      rw [e2] at e4
      cases e4
      revert p
      cases em : ixSet l y d with
      | none => exact fun p => p.elim
      | some m =>
        intro p
        unfold ixSet at em
        split at em
        · obtain ⟨j, e5, e6⟩ := Option.map_eq_some_iff.mp em
          subst e6
          cases ry
          cases o with
          | @lst _ a xs h hf rr =>
            refine ⟨a, xs, _, j, rfl, rfl, h, by rw [← rr.length]; exact e5, p _ _ _ (n2.sta.wr hi e2 (.lst upd_same hf (rr.set (rd.mono n2.stp.fz) j)) (sub_wr n2.sta.sub hf) (n2.sta.wf.upd rfl))⟩
        · cases em
    · exact fun p => p.elim
theorem putF_zip : ∀ {lay : List Str} {xs : List V} {f : Str} {y : V}, lay.Nodup → lay[xs.length]? = some f → putF f y (lay.zip xs) = lay.zip (xs ++ [y])
  | [], _, _, _, _, e => by simp at e
  | a :: lay, [], f, y, nd, e => by
    simp at e
    subst e
    simp [putF]
  | a :: lay, x :: xs, f, y, nd, e => by
    have e : lay[xs.length]? = some f := by simpa using e
    have hne : ¬ a = f := fun z => (List.nodup_cons.mp nd).1 (by rw [z]; exact List.mem_of_getElem? e)
    rw [List.zip_cons_cons, putF, if_neg hne, List.cons_append, List.zip_cons_cons, putF_zip (List.nodup_cons.mp nd).2 e]
theorem lookup_zip : ∀ {lay : List Str} {xs : List V} {g : Str}, (lay.zip xs).lookup g ≠ none → g ∈ lay
  | [], _, _, h => absurd rfl h
  | _ :: _, [], _, h => absurd rfl h
  | a :: lay, x :: xs, g, h => by
    rw [List.zip_cons_cons, List.lookup_cons] at h
    split at h
    · rename_i q
      rw [beq_iff_eq.mp q]
      exact List.mem_cons_self
    · exact List.mem_cons_of_mem _ (lookup_zip h)
theorem s_fld {x f : Str} {e : Expr} {pos pos' px : Pos} {h : M D} (i : Nat) (tb : List (Nat × Nat)) (he : PE X e (tE G W OX O O1 h)) (ht : ∀ c j, tb.lookup c = some j → ClsOk G c ∧ (G.lay c)[j]? = some f) (hO : i ∈ O1 := by decide) (hK : X.K = G.K := by rfl) (hN : X.N[i]? = some x := by rfl) (hv : Vis X.env.scope x := by first | exact Or.inl rfl | exact Or.inr (Or.inl rfl) | exact Or.inr (Or.inr rfl))
    (hd : (x == ("__debug__" : Str)) = false := by decide) (hcd : (x == ("__classdict__" : Str)) = false := by decide) (hs : swapsWith e (some (.Attribute (.Name x px) f pos')) pos.line X.env = pure false := by rfl) : PS X (.Assign [.Attribute (.Name x px) f pos'] e pos) (tS G W OX OL O O1 (sFl i tb h)) :=
  (ps_fld (pe_var hN hv hd hcd) he hs).imp fun Dn σ H ⟨F, r, S, p⟩ => tS_bind S p fun d y F1 H1 r1 n1 rd p => by
    obtain ⟨d0, v0, e1, e2, o⟩ := n1.sta.ow i hO
    refine ⟨v0, e2, ?_⟩
    rw [e1] at p
    cases o with
    | @ob c l a dx xs hh hf hl rr =>
      revert p
      simp only
      cases e3 : tb.lookup c with
      | none => exact fun p => p.elim
      | some j =>
        obtain ⟨co, hj⟩ := ht c j e3
        intro p
        have p : PstS G W OX OL O1 O1 σ F1 H1 Dn (if j = l.length then .ok .nx (r1.set i (some (.ob c (l ++ [d])))) else .no) := p
        split at p
        · rename_i hl2
          rw [hl2, rr.length] at hj
          have hlt : xs.length < (G.lay c).length := (List.getElem?_eq_some_iff.mp hj).1
          have few := co.few
          have z := putF_zip (y := y) co.nd hj
          rw [hK]
          refine ⟨a, _, dx, _, rfl, hh, co.cl, co.na f (List.mem_of_getElem? hj), by simp; omega, ?_⟩
          rw [z]
          have ho : Own G F1 (upd H1 a (.ins (G.cA c) dx ((G.lay c).zip (xs ++ [y])))) (.ob c (l ++ [d])) (.ref a) := by
            refine .ob upd_same ?_ (by simp; omega) (rr.app (.cons rd .nil))
            rcases hf with hf | ⟨hi, n, hf⟩
            · exact .inl hf
            · refine .inr ⟨hi, min n xs.length, ?_⟩
              rw [hf]
              congr 3
              rw [List.take_append_of_le_length (Nat.min_le_right _ _), ← List.take_eq_take_min]
          refine p _ _ _ (n1.sta.wr hO e2 ho (fun b u eb => ?_) fun b C d2 fs g eb hg => ?_)
          · by_cases q : b = a
            · subst q
              refine ⟨_, upd_same, ?_⟩
              rcases hf with hf | ⟨hi, n, hf⟩
              · rw [hf] at eb
                cases eb
              · rw [hf] at eb
                cases eb
                obtain ⟨more, em⟩ := zip_pre (G.lay c) (xs ++ [y]) (min n xs.length)
                refine .inr ⟨_, _, _, more, rfl, ?_⟩
                rw [em, List.take_append_of_le_length (Nat.min_le_right _ _), ← List.take_eq_take_min]
            · obtain ⟨o2, e4, gr⟩ := n1.sta.sub b u eb
              exact ⟨o2, by rw [upd_ne q]; exact e4, gr⟩
          · by_cases q : b = a
            · subst q
              rw [upd_same] at eb
              cases eb
              exact co.sub _ (lookup_zip hg)
            · rw [upd_ne q] at eb
              exact n1.sta.wf b C d2 fs g eb hg
        · exact p.elim
    | lst => exact p.elim
    | dic => exact p.elim
end
end Z

/-! The text's own operators. -/
namespace Z
open PySem PySem.Spec PyProof.Rows L2

/-- the right value's kind is one of these -/
def rk (ts : List String) (cs : List Nat) (y : D) : Bool := match y with
  | .ob c _ => cs.contains c
  | y => match tyN y with
    | some m => ts.contains m
    | none => false
/-- x op y by the left one's class; else a plain operation -/
def oW (tb : List (Nat × Beh)) (ts : List String) (cs : List Nat) (p : D → D → Option D) (x y : D) (r : Ev) : Out D := match x with
  | .ob c l => if rk ts cs y then (match tb.lookup c with
    | some B => out0 (B [.ob c l, y]) r
    | none => .no) else .no
  | _ => liftO (p x y) r
def negO : Out D → Out D
  | .ok (.bl b) r => .ok (.bl (!b)) r
  | .ex e r => .ex e r
  | _ => .no
/-- x != y by the left one's == -/
def oNW (tb : List (Nat × Beh)) (ts : List String) (cs : List Nat) (p : D → D → Option D) (x y : D) (r : Ev) : Out D := match x with
  | .ob c l => if rk ts cs y then (match tb.lookup c with
    | some B => negO (out0 (B [.ob c l, y]) r)
    | none => .no) else .no
  | _ => liftO (p x y) r

section
variable {prog : Program} {w : World} {M : Model} {A : Around} {E : Value → Shared → Prop} {s : Shared} {K : PySem.W.Frag} {x C C2 L f g : Addr} {h₀ : Heap} {m : Str → Option Value} {ox : Obj} {od : Option Obj} {nm : String}
open PySem.W in
/-- x op b, b an instance of another class that has the operator too -/
theorem bin_two {op : Operator} {b : Value} {rc rc2 : Option Value} {Q : Value → Shared → Prop} (F : Fr h₀ L s.heap m) (X₀ : K.In h₀) (I : InstAt s.heap x ox C od) (hb : Looks (model prog w) s.heap (typeOf b) (.ref C2)) (hne : C ≠ C2) (hc : selfFirst K C = true) (hc2 : selfFirst K C2 = true)
    (hs : findIn K (.ref C) (PySem.dunder op.info.2) = some (some (.ref f))) (hf : isFn K (.ref f) = true) (hr : findIn K (.ref C) (dunderR op.info.2) = some rc) (hp : rc = none ∨ ∃ g : Addr, rc = some (.ref g))
    (hs2 : findIn K (.ref C2) (PySem.dunder op.info.2) = some (some (.ref g))) (hr2 : findIn K (.ref C2) (dunderR op.info.2) = some rc2) (hp2 : rc2 = none ∨ ∃ g : Addr, rc2 = some (.ref g)) (hsub : subIn K (.ref C2) (.ref C) = some false)
    (h : wpAny (model prog w) A (call (.ref f) [.ref x, b]) (PySem.W.CmpBack Q) E s) : wpAny (model prog w) A (binaryOp op (.ref x) b) Q E s := by
  have X := X₀.keeps F.keep
  obtain ⟨cd, rest, hcd, hm⟩ := ksp_first hc
  obtain ⟨cd2, rest2, hcd2, hm2⟩ := ksp_first hc2
  rcases hi : op.info with ⟨sym, nm'⟩
  rw [hi] at hs hr hs2 hr2
  dsimp only at hs hr hs2 hr2
  have one := ksp_try X I hs hf h
  obtain ⟨hh, g', d, tt, os⟩ := s
  have L1 : Looks (model prog w) hh (typeOf (.ref x)) (.ref C) := I.type
  have L2 : Looks (model prog w) hh (typeOf b) (.ref C2) := hb
  have L3 : Looks (model prog w) hh (fillsNumberSlot (.ref C) nm') true := fills_K X hcd hm hs
  have L4 : Looks (model prog w) hh (fillsNumberSlot (.ref C2) nm') true := fills_K X hcd2 hm2 hs2
  have L5 : Looks (model prog w) hh (isSubtype (.ref C2) (.ref C)) false := looks_subIn X hsub
  have L6 : Looks (model prog w) hh (numberSlotInPython (.ref C) nm') true := ksp_inPy X hs hr hp
  have L7 : Looks (model prog w) hh (numberSlotInPython (.ref C2) nm') true := ksp_inPy X hs2 hr2 hp2
  have hne' : (Value.ref C == Value.ref C2) = false := Bool.eq_false_iff.mpr fun q => hne (by cases beq_iff_eq.mp q; rfl)
  simp only [binaryOp, hi]
  refine wpAny_holding (wpAny_bind ?_)
  unfold binaryOp1
  refine wpAny_bind (L1.at (wpAny_bind (L2.at (wpAny_bind (L3.at ?_)))))
  simp only [hne', Bool.false_eq_true, if_false]
  ksp_lk
  refine wpAny_mono one (fun r s' hr' => ?_) fun _ _ e => e
  obtain ⟨v, rfl, hq⟩ := hr'
  ksp_lk
  exact hq
open PySem.W in
theorem if_bound_ne {args : List Value} {Q : Option Value → Shared → Prop} (X : K.In s.heap) (I : InstAt s.heap x ox C od) (hs : findIn K (.ref C) "__ne__" = some (some (.builtin "object.__ne__")))
    (h : wpAny M A (call (.builtin "object.__ne__") (.ref x :: args)) (fun v => Q (some v)) E s) : wpAny M A (callSpecialIfBound? (.ref x) "__ne__" args) Q E s := by
  simp only [callSpecialIfBound?, bindSpecialIfBound?]
  refine wpAny_holding (wpAny_bind (wpAny_bind (wpAny_bind (I.type.here ((looks_findIn X hs).here ?_)))))
  have fin : wpAny M A (call (.builtin "object.__ne__") ([.ref x] ++ args) >>= fun v => pure (some v)) Q E s := wpAny_bind (wpAny_mono h (fun v s1 z => wpAny_pure z) fun _ _ z => z)
  refine wpAny_bind (wpAny_askSetting (wpAny_ite ?_))
  split
  · exact wpAny_bind (wpAny_of_eq (F.cmp_object.ne.bind _) (wpAny_pure (by exact fin)))
  · exact wpAny_tryCatch (wpAny_bind (wpAny_of_eq (F.cmp_object.ne.bind _) (wpAny_pure (by exact fin))))
open PySem.W in
/-- x != b by __eq__ -/
theorem ne_own {b tb : Value} {Q : Value → Shared → Prop} (hu : A.units + 1 < cLine) (Fq : Fr h₀ L s.heap m) (X₀ : K.In h₀) (I : InstAt s.heap x ox C od) (hb : Looks (model prog w) s.heap (typeOf b) tb) (hn : notFirst K C tb = true) (hm : mroIn K C (.type "object") = some true)
    (hne : findIn K (.ref C) "__ne__" = some (some (.builtin "object.__ne__"))) (hs : findIn K (.ref C) "__eq__" = some (some (.ref f))) (hf : isFn K (.ref f) = true)
    (h : wpAny (model prog w) A.in1 (call (.ref f) [.ref x, b]) (fun v s' => ∃ z, v = .bool z ∧ Q (.bool (!z)) s') E s) : wpAny (model prog w) A (richCompare .NotEq (.ref x) b) Q E s := by
  have X := X₀.keeps Fq.keep
  have back : wpAny (model prog w) A.in1 (callSpecialIfBound? (.ref x) "__eq__" [b]) (fun r s' => ∃ z, r = some (.bool z) ∧ Q (.bool (!z)) s') E s :=
    ifBound_K (args := [b]) X I hs hf (wpAny_mono h (fun v s' ⟨z, e, q⟩ => ⟨z, by rw [e], q⟩) fun _ _ e => e)
  have entry : wpAny (model prog w) A.in1 (Builtin.«object.__ne__» ⟨[.ref x, b], []⟩) (GQ.FinOf prog w A ((fun (Q : Value → Shared → Prop) (E : Value → Shared → Prop) (r : Result) (s' : Shared) => match r with | .ok (.ret v) => Q v s' | .ok _ => False | .error e => E e s') (fun v s' => v ≠ .notImplemented ∧ Q v s') E)) (fun e s' => (fun (Q : Value → Shared → Prop) (E : Value → Shared → Prop) (r : Result) (s' : Shared) => match r with | .ok (.ret v) => Q v s' | .ok _ => False | .error e => E e s') (fun v s' => v ≠ .notImplemented ∧ Q v s') E (.error e) s') s := by
    have fin : ∀ (z : Bool) (s' : Shared), Q (.bool (!z)) s' → GQ.FinOf prog w A ((fun (Q : Value → Shared → Prop) (E : Value → Shared → Prop) (r : Result) (s' : Shared) => match r with | .ok (.ret v) => Q v s' | .ok _ => False | .error e => E e s') (fun v s' => v ≠ .notImplemented ∧ Q v s') E) (.done (.ret (.bool (!z)))) s' := fun z s' q => ⟨(fun y => nomatch y), q⟩
    generalize GQ.FinOf prog w A ((fun (Q : Value → Shared → Prop) (E : Value → Shared → Prop) (r : Result) (s' : Shared) => match r with | .ok (.ret v) => Q v s' | .ok _ => False | .error e => E e s') (fun v s' => v ≠ .notImplemented ∧ Q v s') E) = Rf at fin ⊢
    have back' : wpAny (model prog w) A.in1 (callSpecialIfBound? (.ref x) "__eq__" [b]) (fun r s' => ∃ z, r = some (.bool z) ∧ Q (.bool (!z)) s') (fun e s' => (fun (Q : Value → Shared → Prop) (E : Value → Shared → Prop) (r : Result) (s' : Shared) => match r with | .ok (.ret v) => Q v s' | .ok _ => False | .error e => E e s') (fun v s' => v ≠ .notImplemented ∧ Q v s') E (.error e) s') s := back
    generalize (fun e s' => (fun (Q : Value → Shared → Prop) (E : Value → Shared → Prop) (r : Result) (s' : Shared) => match r with | .ok (.ret v) => Q v s' | .ok _ => False | .error e => E e s') (fun v s' => v ≠ .notImplemented ∧ Q v s') E (.error e) s') = Ef at back' ⊢
    obtain ⟨hh, g', d, tt, os⟩ := s
    unfold Builtin.«object.__ne__»
    repeat (first
      | with_reducible refine wpAny_cRoomFor hu ?_
      | (refine wpAny_bind (m := callSpecialIfBound? (.ref x) (Str.ofString "__eq__") [b]) (wpAny_mono back' (fun r s' hr => by
          obtain ⟨z, rfl, hq⟩ := hr
          repeat (first | exact fin _ _ hq | exact wpAny_pure (fin _ _ hq) | exact wpAny_truthy_bool (fin _ _ hq) | (refine wpAny_bind (m := truthy (.bool _)) (wpAny_truthy_bool ?_)) | wp_step)) fun _ _ e => e))
      | wp_step)
  have called : wpAny (model prog w) A (call (.builtin "object.__ne__") [.ref x, b]) (fun v s' => v ≠ .notImplemented ∧ Q v s') E s :=
    wpAny_call (codeAny_call_builtin F.cmp_object.ne.plain F.cmpEntry_ne (PySem.W.check_slot F.cmpKind_ne F.cmpSplit_ne (I.type.andThen (PySem.W.looks_mroIn X hm)) (F.cmpArgs_ne _ _) entry))
  have one : wpAny (model prog w) A (tryCompare (.ref x) "__ne__" b) (fun r s' => ∃ v, r = some v ∧ Q v s') E s := by
    unfold tryCompare
    refine wpAny_bind (if_bound_ne X I hne (wpAny_mono called (fun v s' hv => ?_) fun _ _ e => e))
    obtain ⟨h1, h2⟩ := hv
    cases v <;> first | exact absurd rfl h1 | exact wpAny_pure ⟨_, rfl, h2⟩
  unfold richCompare
  simp only [oneThing_ref]
  refine wpAny_holding (wpAny_bind (wpAny_cRoomFor (Nat.lt_of_succ_lt hu) ?_))
  refine wpAny_bind (I.type.here (wpAny_bind (hb.here ?_)))
  split
  · rename_i q
    have e : subIn K tb (.ref C) = some false := by
      rcases Bool.or_eq_true_iff.mp hn with e | e
      · rw [beq_iff_eq.mp e] at q
        simp at q
      · exact beq_iff_eq.mp e
    refine wpAny_bind ((looks_subIn X e).here ?_)
    simp only [Bool.false_eq_true, if_false]
    refine wpAny_bind (wpAny_mono one (fun r s' z => ?_) fun _ _ e => e)
    obtain ⟨v, rfl, hq⟩ := z
    exact wpAny_pure hq
  · refine wpAny_bind (wpAny_pure ?_)
    simp only [Bool.false_eq_true, if_false]
    refine wpAny_bind (wpAny_mono one (fun r s' z => ?_) fun _ _ e => e)
    obtain ⟨v, rfl, hq⟩ := z
    exact wpAny_pure hq
end

def flat4 : List String := ["int", "bool", "str", "NoneType"]
/-- a class's own def for an operator of two values -/
structure OwnOk (G : Gm) (P : Program) (w : World) (mg : Str → Option Value) (base : Heap) (k : Nat) (dn : Str) (c : Nat) (B : Beh) (f : Addr) (fd : FuncData) (ps : List Str) (n : Nat) : Prop where
  at_ : PySem.W.findIn G.K (.ref (G.cA c)) dn = some (some (.ref f))
  isf : PySem.W.isFn G.K (.ref f) = true
  fn : FnB P w G mg base k f fd ps n [] B
  bd : Binds G.K fd ps []
  ar : ∀ ds, ds.length ≠ n → B ds = .no
/-- what else the binary operators ask -/
structure BinOk (G : Gm) (dn dr : Str) (ts : List String) (cs : List Nat) (c : Nat) : Prop where
  sf : PySem.W.selfFirst G.K (G.cA c) = true
  rc : ∃ rc, PySem.W.findIn G.K (.ref (G.cA c)) dr = some rc ∧ (rc = none ∨ ∃ g : Addr, rc = some (.ref g))
  ty : ∀ T ∈ ts, T ∈ flat4 ∧ (∃ fo ro, PySem.W.findIn G.K (.type T) dn = some fo ∧ PySem.W.findIn G.K (.type T) dr = some ro) ∧ PySem.W.subIn G.K (.type T) (.ref (G.cA c)) = some false
  ot : ∀ d ∈ cs, d = c ∨ (G.cA c ≠ G.cA d ∧ PySem.W.selfFirst G.K (G.cA d) = true ∧ (∃ g : Addr, PySem.W.findIn G.K (.ref (G.cA d)) dn = some (some (.ref g))) ∧ (∃ rc, PySem.W.findIn G.K (.ref (G.cA d)) dr = some rc ∧ (rc = none ∨ ∃ g : Addr, rc = some (.ref g))) ∧
    PySem.W.subIn G.K (.ref (G.cA d)) (.ref (G.cA c)) = some false)
/-- .. the comparisons -/
structure CmpOk (G : Gm) (ts : List String) (cs : List Nat) (c : Nat) : Prop where
  ty : ∀ T ∈ ts, T ∈ flat4 ∧ PySem.W.notFirst G.K (G.cA c) (.type T) = true
  ot : ∀ d ∈ cs, PySem.W.notFirst G.K (G.cA c) (.ref (G.cA d)) = true
section
variable {G : Gm} {X : Cx} {W : WX} {OX OL vs O O1 O2 O3 : List Nat}
theorem run_At {A : Around} {k : Nat} {f : Addr} {fd : FuncData} {ps : List Str} {n : Nat} {B : Beh} {pins : List (Addr × Obj)} {σ : L2.St} {H : Hp} {s : Shared} {Q : VK} {us : List Value} {vs : List V} (sb : L2.Sub X k A) (tk : Takes X W) (Fk : FnOk X.prog X.w X.K X.mg X.base (L2.CX X.prog X.w) k f fd ps (spB G n [] B))
    (hb : Binds X.K fd ps []) (I : Inv X pins σ H s) (r : Vals vs us) (h : spB G n [] B vs H Q (fun c dx H' => W c dx σ H')) : wpAny (model X.prog X.w) A (call (.ref f) us) (EP X pins σ Q) X.xe s := by
  have hl := Fk.len _ _ _ _ h
  have e0 : Env0 X.prog X.w X.K X.mg X.base A X.stack s H := by
    have e := I.env0
    exact ⟨by rw [sb.fr]; exact e.frames, e.mod, e.bs, e.bsz, e.funs, e.frf, e.hok, e.bare⟩
  have bt := hb s us I.kIn (by rw [List.append_nil, ← r.length, hl])
  rw [List.append_nil] at bt
  refine wpAny_call (codeAny_mono (Fk.run A X.stack s H ⟨us, []⟩ us vs Q _ sb.room e0 bt r h) fun res s' back => ?_)
  match res, back with
  | .error er, back => exact passAt tk σ pins H s er s' I back
  | .ok (.ret u), back => exact I.after back
  | .ok .next, back => exact back.elim
  | .ok .brk, back => exact back.elim
  | .ok .cont, back => exact back.elim
theorem rk_ty {ts : List String} {cs : List Nat} {y : D} {v : V} {u : Value} {F : Hp} (hts : ∀ T ∈ ts, T ∈ flat4) (h : rk ts cs y = true) (ry : Rep G F y v) (ru : RelV v u) : (∃ T, T ∈ ts ∧ typeOf u = pure (.type T)) ∨ ∃ d l, y = .ob d l ∧ d ∈ cs := by
  cases ry with
  | non => cases ru; exact .inl ⟨"NoneType", by simpa [rk, tyN] using h, rfl⟩
  | bl => cases ru; exact .inl ⟨"bool", by simpa [rk, tyN] using h, rfl⟩
  | int => obtain ⟨t, rfl⟩ := ru; exact .inl ⟨"int", by simpa [rk, tyN] using h, rfl⟩
  | str => obtain ⟨t, rfl⟩ := ru; exact .inl ⟨"str", by simpa [rk, tyN] using h, rfl⟩
  | tup => exact absurd (hts "tuple" (by simpa [rk, tyN] using h)) (by decide)
  | lst => exact absurd (hts "list" (by simpa [rk, tyN] using h)) (by decide)
  | kl => exact absurd (hts "list" (by simpa [rk, tyN] using h)) (by decide)
  | dic => exact absurd (hts "dict" (by simpa [rk, tyN] using h)) (by decide)
  | @ob d l => exact .inr ⟨d, l, rfl, by simpa [rk] using h⟩
/-- the instance at hand -/
theorem inst_at {σ : L2.St} {F H : Hp} {r : Ev} {c : Nat} {l : List D} {v : V} {pins : List (Addr × Obj)} {s : Shared} (I : Inv X pins σ H s) (S : Sta G O F H σ r) (h : Rep G F (.ob c l) v) : ∃ a, v = .ref a ∧ ∃ ox od, PySem.W.InstAt s.heap a ox (G.cA c) (some od) := by
  cases h with
  | @ob _ _ a dx xs more h hl rr =>
    obtain ⟨o', e', gr⟩ := S.sub _ _ h
    obtain ⟨q, eo⟩ := gr.ins
    subst eo
    obtain ⟨mA, J, _⟩ := ins_get I.hok e'
    obtain ⟨od, J, _⟩ := J.look
    exact ⟨a, rfl, _, od, J⟩
theorem o_bin {op : Operator} {p : D → D → Option D} {k : Nat} (tb : List (Nat × Beh)) (ts : List String) (cs : List Nat) (tk : Takes X W) (hr : Room k X.A) (hp : Op2 G X W OX O (binaryOp op) (oP p))
    (ht : ∀ c B, tb.lookup c = some B → (∃ f fd ps, OwnOk G X.prog X.w X.mg X.base k (PySem.dunder op.info.2) c B f fd ps 2) ∧ BinOk G (PySem.dunder op.info.2) (dunderR op.info.2) ts cs c) (hx : ∀ i ∈ OX, i ∈ O := by decide) (hK : X.K = G.K := by rfl) : Op2 G X W OX O (binaryOp op) (oW tb ts cs p) :=
  fun pins s σ F H r x y v w u u' Q I S rx ry ru ru' q => by
    cases x with
    | ob c l =>
      unfold oW at q
      simp only at q
      split at q
      case isFalse => exact q.elim
      rename_i hk
      revert q
      cases e1 : tb.lookup c with
      | none => exact fun q => q.elim
      | some B =>
        intro q
        have q : Pst G W OX O O σ F H (RD G) Q (out0 (B [.ob c l, y]) r) := q
        obtain ⟨⟨f, fd, ps, ow⟩, bk⟩ := ht c B e1
        obtain ⟨a, rfl, ox, od, J⟩ := inst_at I S rx
        obtain rfl : u = Value.ref a := ru
        obtain ⟨m, hF⟩ := I.fr
        have Fk : FnOk X.prog X.w X.K X.mg X.base (L2.CX X.prog X.w) k f fd ps (spB G 2 [] B) := by rw [hK]; exact ow.fn
        have rr : RepL G F [.ob c l, y] [.ref a, w] := .cons rx (.cons ry .nil)
        have go : wpAny (model X.prog X.w) X.A (call (.ref f) [.ref a, u']) (PySem.W.CmpBack (EP X pins σ Q)) X.xe s := by
          refine wpAny_mono (run_At (us := [.ref a, u']) (vs := [.ref a, w]) ⟨hr, rfl⟩ tk Fk (by rw [hK]; exact ow.bd) I (.cons rfl (.cons ru' .nil)) (spB_of hx S rr (len_of ow.ar rr q) q)) (fun z s' h => ?_) fun _ _ h => h
          obtain ⟨z', H', I', rz, qz⟩ := h
          exact SlX.cmpback rz ⟨z', H', I', rz, qz⟩
        obtain ⟨rc, h1, h2⟩ := bk.rc
        rcases rk_ty (fun T hT => (bk.ty T hT).1) hk ry ru' with ⟨T, hT, ht⟩ | ⟨d, l2, rfl, hd⟩
        · obtain ⟨_, ⟨fo, ro, h3, h4⟩, h5⟩ := bk.ty T hT
          exact PySem.W.ksp_binT (K := X.K) (C := G.cA c) hF I.ok.mod.kin J ht (by rw [hK]; exact bk.sf) (by rw [hK]; exact ow.at_) (by rw [hK]; exact ow.isf) (by rw [hK]; exact h1) h2 (by rw [hK]; exact h3) (by rw [hK]; exact h4) (by rw [hK]; exact h5) go
        · obtain ⟨b, rfl, ox2, od2, J2⟩ := inst_at I S ry
          obtain rfl : u' = Value.ref b := ru'
          rcases bk.ot d hd with rfl | ⟨hne, h3, ⟨g, h4⟩, ⟨rc2, h5, h6⟩, h7⟩
          · exact PySem.W.binop_K (K := X.K) (C := G.cA d) hF I.ok.mod.kin J J2.type (by rw [hK]; exact bk.sf) (by rw [hK]; exact ow.at_) (by rw [hK]; exact ow.isf) go
          · exact bin_two (K := X.K) (C := G.cA c) hF I.ok.mod.kin J J2.type hne (by rw [hK]; exact bk.sf) (by rw [hK]; exact h3) (by rw [hK]; exact ow.at_) (by rw [hK]; exact ow.isf) (by rw [hK]; exact h1) h2 (by rw [hK]; exact h4) (by rw [hK]; exact h5) h6 (by rw [hK]; exact h7) go
    | non => exact hp pins s σ F H r _ y v w u u' Q I S rx ry ru ru' q
    | bl b => exact hp pins s σ F H r _ y v w u u' Q I S rx ry ru ru' q
    | int b => exact hp pins s σ F H r _ y v w u u' Q I S rx ry ru ru' q
    | str b => exact hp pins s σ F H r _ y v w u u' Q I S rx ry ru ru' q
    | tup b => exact hp pins s σ F H r _ y v w u u' Q I S rx ry ru ru' q
    | lst b => exact hp pins s σ F H r _ y v w u u' Q I S rx ry ru ru' q
    | kl b => exact hp pins s σ F H r _ y v w u u' Q I S rx ry ru ru' q
    | dic b b' => exact hp pins s σ F H r _ y v w u u' Q I S rx ry ru ru' q
    | xo c l => cases rx
/-- -x -/
theorem o_negW {p : D → Option D} {k : Nat} (tb : List (Nat × Beh)) (tk : Takes X W) (hr : Room k X.A) (hp : Op1 G X W OX O (unaryOp .USub) (oU p))
    (ht : ∀ c B, tb.lookup c = some B → ∃ f fd ps, OwnOk G X.prog X.w X.mg X.base k "__neg__" c B f fd ps 1) (hx : ∀ i ∈ OX, i ∈ O := by decide) (hK : X.K = G.K := by rfl) : Op1 G X W OX O (unaryOp .USub) (oC1 tb p) :=
  fun pins s σ F H r x v u Q I S rx ru q => by
    cases x with
    | ob c l =>
      rw [oC1_ob] at q
      revert q
      cases e1 : tb.lookup c with
      | none => exact fun q => q.elim
      | some B =>
        intro q
        have q : Pst G W OX O O σ F H (RD G) Q (out0 (B [.ob c l]) r) := q
        obtain ⟨f, fd, ps, ow⟩ := ht c B e1
        obtain ⟨a, rfl, ox, od, J⟩ := inst_at I S rx
        obtain rfl : u = Value.ref a := ru
        obtain ⟨m, hF⟩ := I.fr
        have Fk : FnOk X.prog X.w X.K X.mg X.base (L2.CX X.prog X.w) k f fd ps (spB G 1 [] B) := by rw [hK]; exact ow.fn
        have rr : RepL G F [.ob c l] [.ref a] := .cons rx .nil
        exact PySem.W.ksp_neg (K := X.K) (C := G.cA c) hF I.ok.mod.kin J (by rw [hK]; exact ow.at_) (by rw [hK]; exact ow.isf) (run_At (us := [.ref a]) (vs := [.ref a]) ⟨hr, rfl⟩ tk Fk (by rw [hK]; exact ow.bd) I (.cons rfl .nil) (spB_of hx S rr (len_of ow.ar rr q) q))
    | non => exact hp pins s σ F H r _ v u Q I S rx ru q
    | bl b => exact hp pins s σ F H r _ v u Q I S rx ru q
    | int b => exact hp pins s σ F H r _ v u Q I S rx ru q
    | str b => exact hp pins s σ F H r _ v u Q I S rx ru q
    | tup b => exact hp pins s σ F H r _ v u Q I S rx ru q
    | lst b => exact hp pins s σ F H r _ v u Q I S rx ru q
    | kl b => exact hp pins s σ F H r _ v u Q I S rx ru q
    | dic b b' => exact hp pins s σ F H r _ v u Q I S rx ru q
    | xo c l => cases rx
/-- x op y by the left one's class, anywhere below this body -/
theorem cmp_at {A : Around} {op : CmpOp} {k : Nat} {dn : Str} {ts : List String} {cs : List Nat} {c : Nat} {l : List D} {y : D} {B : Beh} {f : Addr} {fd : FuncData} {ps : List Str} {pins : List (Addr × Obj)} {s : Shared} {σ : L2.St} {F H : Hp} {r : Ev} {v w : V} {u u' : Value} {Q : VK}
    (sb : L2.Sub X k A) (tk : Takes X W) (hdn : (cmpInfo op).2.1 = dn) (ow : OwnOk G X.prog X.w X.mg X.base k dn c B f fd ps 2) (ck : CmpOk G ts cs c) (hk : rk ts cs y = true) (hx : ∀ i ∈ OX, i ∈ O) (hK : X.K = G.K) (I : Inv X pins σ H s) (S : Sta G O F H σ r) (rx : Rep G F (.ob c l) v) (ry : Rep G F y w) (ru : RelV v u) (ru' : RelV w u')
    (q : Pst G W OX O O σ F H (RD G) Q (out0 (B [.ob c l, y]) r)) : wpAny (model X.prog X.w) A (richCompare op u u') (EP X pins σ Q) X.xe s := by
  subst hdn
  obtain ⟨a, rfl, ox, od, J⟩ := inst_at I S rx
  obtain rfl : u = Value.ref a := ru
  obtain ⟨m, hF⟩ := I.fr
  have Fk : FnOk X.prog X.w X.K X.mg X.base (L2.CX X.prog X.w) k f fd ps (spB G 2 [] B) := by rw [hK]; exact ow.fn
  have rr : RepL G F [.ob c l, y] [.ref a, w] := .cons rx (.cons ry .nil)
  have go : wpAny (model X.prog X.w) A (call (.ref f) [.ref a, u']) (PySem.W.CmpBack (EP X pins σ Q)) X.xe s := by
    refine wpAny_mono (run_At (us := [.ref a, u']) (vs := [.ref a, w]) sb tk Fk (by rw [hK]; exact ow.bd) I (.cons rfl (.cons ru' .nil)) (spB_of hx S rr (len_of ow.ar rr q) q)) (fun z s' h => ?_) fun _ _ h => h
    obtain ⟨z', H', I', rz, qz⟩ := h
    exact SlX.cmpback rz ⟨z', H', I', rz, qz⟩
  have fin : ∀ tbv, PySem.W.Looks (model X.prog X.w) s.heap (typeOf u') tbv → PySem.W.notFirst G.K (G.cA c) tbv = true → wpAny (model X.prog X.w) A (richCompare op (.ref a) u') (EP X pins σ Q) X.xe s := fun tbv hl hn =>
    PySem.W.cmp_K (K := X.K) (C := G.cA c) (op := op) (tb := tbv) sb.room.units0 hF I.ok.mod.kin J hl (by rw [hK]; exact hn) (by rw [hK]; exact ow.at_) (by rw [hK]; exact ow.isf) go
  rcases rk_ty (fun T hT => (ck.ty T hT).1) hk ry ru' with ⟨T, hT, ht⟩ | ⟨d, l2, rfl, hd⟩
  · exact fin _ (PySem.W.Looks.of_pure ht) (ck.ty T hT).2
  · obtain ⟨b, rfl, ox2, od2, J2⟩ := inst_at I S ry
    obtain rfl : u' = Value.ref b := ru'
    exact fin _ J2.type (ck.ot d hd)
theorem o_cmp {op : CmpOp} {p : D → D → Option D} {k : Nat} (tb : List (Nat × Beh)) (ts : List String) (cs : List Nat) (tk : Takes X W) (hr : Room k X.A) (hp : Op2 G X W OX O (compareOp op) (oP p)) (hop : ∀ a b, compareOp op a b = richCompare op a b := by intros; rfl)
    (ht : ∀ c B, tb.lookup c = some B → (∃ f fd ps, OwnOk G X.prog X.w X.mg X.base k (cmpInfo op).2.1 c B f fd ps 2) ∧ CmpOk G ts cs c) (hx : ∀ i ∈ OX, i ∈ O := by decide) (hK : X.K = G.K := by rfl) : Op2 G X W OX O (compareOp op) (oW tb ts cs p) :=
  fun pins s σ F H r x y v w u u' Q I S rx ry ru ru' q => by
    cases x with
    | ob c l =>
      unfold oW at q
      simp only at q
      split at q
      case isFalse => exact q.elim
      rename_i hk
      revert q
      cases e1 : tb.lookup c with
      | none => exact fun q => q.elim
      | some B =>
        intro q
        obtain ⟨⟨f, fd, ps, ow⟩, ck⟩ := ht c B e1
        rw [hop]
        exact cmp_at ⟨hr, rfl⟩ tk rfl ow ck hk hx hK I S rx ry ru ru' q
    | non => exact hp pins s σ F H r _ y v w u u' Q I S rx ry ru ru' q
    | bl b => exact hp pins s σ F H r _ y v w u u' Q I S rx ry ru ru' q
    | int b => exact hp pins s σ F H r _ y v w u u' Q I S rx ry ru ru' q
    | str b => exact hp pins s σ F H r _ y v w u u' Q I S rx ry ru ru' q
    | tup b => exact hp pins s σ F H r _ y v w u u' Q I S rx ry ru ru' q
    | lst b => exact hp pins s σ F H r _ y v w u u' Q I S rx ry ru ru' q
    | kl b => exact hp pins s σ F H r _ y v w u u' Q I S rx ry ru ru' q
    | dic b b' => exact hp pins s σ F H r _ y v w u u' Q I S rx ry ru ru' q
    | xo c l => cases rx
/-- x != y by __eq__ -/
structure NeOk (G : Gm) (c : Nat) : Prop where
  ne : PySem.W.findIn G.K (.ref (G.cA c)) "__ne__" = some (some (.builtin "object.__ne__"))
  mo : PySem.W.mroIn G.K (G.cA c) (.type "object") = some true
theorem o_neW {p : D → D → Option D} {k : Nat} (tb : List (Nat × Beh)) (ts : List String) (cs : List Nat) (tk : Takes X W) (hr : Room (k + 1) X.A) (hp : Op2 G X W OX O (compareOp .NotEq) (oP p))
    (ht : ∀ c B, tb.lookup c = some B → (∃ f fd ps, OwnOk G X.prog X.w X.mg X.base k "__eq__" c B f fd ps 2) ∧ CmpOk G ts cs c ∧ NeOk G c) (hx : ∀ i ∈ OX, i ∈ O := by decide) (hK : X.K = G.K := by rfl) : Op2 G X W OX O (compareOp .NotEq) (oNW tb ts cs p) :=
  fun pins s σ F H r x y v w u u' Q I S rx ry ru ru' q => by
    cases x with
    | ob c l =>
      unfold oNW at q
      simp only at q
      split at q
      case isFalse => exact q.elim
      rename_i hk
      revert q
      cases e1 : tb.lookup c with
      | none => exact fun q => q.elim
      | some B =>
        intro q
        have q : Pst G W OX O O σ F H (RD G) Q (negO (out0 (B [.ob c l, y]) r)) := q
        obtain ⟨⟨f, fd, ps, ow⟩, ck, nk⟩ := ht c B e1
        obtain ⟨a, rfl, ox, od, J⟩ := inst_at I S rx
        obtain rfl : u = Value.ref a := ru
        obtain ⟨m, hF⟩ := I.fr
        have Fk : FnOk X.prog X.w X.K X.mg X.base (L2.CX X.prog X.w) k f fd ps (spB G 2 [] B) := by rw [hK]; exact ow.fn
        have rr : RepL G F [.ob c l, y] [.ref a, w] := .cons rx (.cons ry .nil)
        have q2 : Pst G W OX O O σ F H (RD G) (fun v' H' => ∃ b, v' = .bl b ∧ Q (.bl (!b)) H') (out0 (B [.ob c l, y]) r) := by
          revert q
          cases out0 (B [.ob c l, y]) r with
          | no => exact fun q => q
          | ex e r' => exact fun q => q
          | ok d r' =>
            cases d with
            | bl b =>
              intro q v' F' H' n rv
              cases rv
              exact ⟨b, rfl, q _ F' H' n .bl⟩
            | _ => exact fun q => q.elim
        have sb1 : L2.Sub X k X.A.in1 := L2.Sub.in1 ⟨hr, rfl⟩
        have go : wpAny (model X.prog X.w) X.A.in1 (call (.ref f) [.ref a, u']) (fun z s' => ∃ b, z = .bool b ∧ EP X pins σ Q (.bool (!b)) s') X.xe s := by
          refine wpAny_mono (run_At (us := [.ref a, u']) (vs := [.ref a, w]) sb1 tk Fk (by rw [hK]; exact ow.bd) I (.cons rfl (.cons ru' .nil)) (spB_of hx S rr (len_of ow.ar rr q2) q2)) (fun z s' h => ?_) fun _ _ h => h
          obtain ⟨z', H', I', rz, b, eb, qz⟩ := h
          subst eb
          cases (show z = Value.bool b from rz)
          exact ⟨b, rfl, .bl (!b), H', I', rfl, qz⟩
        have fin : ∀ tbv, PySem.W.Looks (model X.prog X.w) s.heap (typeOf u') tbv → PySem.W.notFirst G.K (G.cA c) tbv = true → wpAny (model X.prog X.w) X.A (compareOp .NotEq (.ref a) u') (EP X pins σ Q) X.xe s := fun tbv hl hn =>
          ne_own (K := X.K) (C := G.cA c) (tb := tbv) (by have := hr.un; omega) hF I.ok.mod.kin J hl (by rw [hK]; exact hn) (by rw [hK]; exact nk.mo) (by rw [hK]; exact nk.ne) (by rw [hK]; exact ow.at_) (by rw [hK]; exact ow.isf) go
        rcases rk_ty (fun T hT => (ck.ty T hT).1) hk ry ru' with ⟨T, hT, ht⟩ | ⟨d, l2, rfl, hd⟩
        · exact fin _ (PySem.W.Looks.of_pure ht) (ck.ty T hT).2
        · obtain ⟨b, rfl, ox2, od2, J2⟩ := inst_at I S ry
          obtain rfl : u' = Value.ref b := ru'
          exact fin _ J2.type (ck.ot d hd)
    | non => exact hp pins s σ F H r _ y v w u u' Q I S rx ry ru ru' q
    | bl b => exact hp pins s σ F H r _ y v w u u' Q I S rx ry ru ru' q
    | int b => exact hp pins s σ F H r _ y v w u u' Q I S rx ry ru ru' q
    | str b => exact hp pins s σ F H r _ y v w u u' Q I S rx ry ru ru' q
    | tup b => exact hp pins s σ F H r _ y v w u u' Q I S rx ry ru ru' q
    | lst b => exact hp pins s σ F H r _ y v w u u' Q I S rx ry ru ru' q
    | kl b => exact hp pins s σ F H r _ y v w u u' Q I S rx ry ru ru' q
    | dic b b' => exact hp pins s σ F H r _ y v w u u' Q I S rx ry ru ru' q
    | xo c l => cases rx
end
end Z

/-! == of tuples whose items have an own ==. -/
namespace Z
open PySem PySem.Spec PyProof.Rows L2

def isT : Out D → Bool
  | .ok (.bl true) _ => true
  | _ => false
def okB (o : Option Beh) (ds : List D) : Bool := match o with
  | some B => isT (B ds)
  | none => false
/-- the own == of two items -/
def eqI (tb : List (Nat × Beh)) (ts : List String) (cs : List Nat) (x y : D) : Bool := match x with
  | .ob c l => rk ts cs y && okB (tb.lookup c) [.ob c l, y]
  | _ => false
def allT (f : D → D → Bool) : List D → List D → Bool
  | [], [] => true
  | x :: l, y :: m => f x y && allT f l m
  | _, _ => false
def oET (tb : List (Nat × Beh)) (ts : List String) (cs : List Nat) (x y : D) (r : Ev) : Out D := match x, y with
  | .tup l, .tup m => (match pEq (.tup l) (.tup m) with
    | some d => .ok d r
    | none => if allT (eqI tb ts cs) l m then .ok (.bl true) r else .no)
  | x, y => oW tb ts cs pEq x y r
theorem allT_get {f : D → D → Bool} : ∀ {l m : List D}, allT f l m = true → l.length = m.length ∧ ∀ (i : Nat) (x y : D), l[i]? = some x → m[i]? = some y → f x y = true
  | [], [], _ => ⟨rfl, fun i x y e _ => by simp at e⟩
  | x :: l, y :: m, h => by
    rw [allT, Bool.and_eq_true] at h
    obtain ⟨h1, h2⟩ := allT_get h.2
    refine ⟨by rw [List.length_cons, List.length_cons, h1], fun i a b ea eb => ?_⟩
    cases i with
    | zero =>
      simp at ea eb
      subst ea eb
      exact h.1
    | succ i => exact h2 i a b (by simpa using ea) (by simpa using eb)
  | [], _ :: _, h => by cases h
  | _ :: _, [], h => by cases h
section
variable {G : Gm} {X : Cx} {W : WX} {OX OL vs O O1 O2 O3 : List Nat}
theorem o_eqT {k : Nat} (tb : List (Nat × Beh)) (ts : List String) (cs : List Nat) (tk : Takes X W) (hr : Room (k + 1) X.A)
    (ht : ∀ c B, tb.lookup c = some B → (∃ f fd ps, OwnOk G X.prog X.w X.mg X.base k "__eq__" c B f fd ps 2) ∧ CmpOk G ts cs c) (hx : ∀ i ∈ OX, i ∈ O := by decide) (hK : X.K = G.K := by rfl) : Op2 G X W OX O (compareOp .Eq) (oET tb ts cs) :=
  fun pins s σ F H r x y v w u u' Q I S rx ry ru ru' q => by
    have low : Op2 G X W OX O (compareOp .Eq) (oW tb ts cs pEq) := o_cmp tb ts cs tk (hr.mono (Nat.le_succ k)) (o_eq hr hK) (by intros; rfl) ht hx hK
    unfold oET at q
    split at q
    · rename_i l m
      split at q
      · rename_i d e
        exact low pins s σ F H r _ _ v w u u' Q I S rx ry ru ru' (by show Pst G W OX O O σ F H (RD G) Q (liftO (pEq (.tup l) (.tup m)) r); rw [e]; exact q)
      · split at q
        case isFalse => exact q.elim
        rename_i ha
        obtain ⟨hlen, hall⟩ := allT_get ha
        cases rx with
        | @tup _ a xs hq1 r1 =>
          cases ry with
          | @tup _ b ys hq2 r2 =>
            obtain rfl : u = Value.ref a := ru
            obtain rfl : u' = Value.ref b := ru'
            obtain ⟨its, rv, h1, _⟩ := I.tuple (by rw [hK]; exact S.sub.sqT hq1)
            obtain ⟨its2, rv2, h2, _⟩ := I.tuple (by rw [hK]; exact S.sub.sqT hq2)
            have n1 : its.length = l.length := by rw [← rv.length, r1.length]
            have n2 : its2.length = m.length := by rw [← rv2.length, r2.length]
            show wpAny (model X.prog X.w) X.A (richCompare .Eq (.ref a) (.ref b)) (EP X pins σ Q) X.xe s
            refine GQ.rc_tupG (items := its.toArray) (items2 := its2.toArray) (by simp; omega) hr.units0 (fun _ s' => ∃ F' H', Inv X pins σ H' s' ∧ Nx G OX O O σ F H σ F' H' r) h1 h2 (fun i hi1 hi2 s' hI => ?_) (fun s' hI => ?_) ⟨F, H, I, Nx.rfl' S⟩
            · obtain ⟨F', H', I', n⟩ := hI
              have hi1 : i < its.length := by simpa using hi1
              have hi2 : i < its2.length := by simpa using hi2
              have g1 : its.toArray[i]'(by simpa using hi1) = its[i] := by simp
              have g2 : its2.toArray[i]'(by simpa using hi2) = its2[i] := by simp
              rw [g1, g2]
              have el : l[i]? = some (l[i]'(by omega)) := List.getElem?_eq_getElem _
              have em : m[i]? = some (m[i]'(by omega)) := List.getElem?_eq_getElem _
              generalize l[i]'(by omega) = dx at el
              generalize m[i]'(by omega) = dy at em
              have hf := hall i dx dy el em
              obtain ⟨vx, ex, rx⟩ := r1.get el
              obtain ⟨vy, ey, ry⟩ := r2.get em
              obtain ⟨ux, eux, rux⟩ := L2.Vals.get rv ex
              obtain ⟨uy, euy, ruy⟩ := L2.Vals.get rv2 ey
              have q1 : its[i] = ux := by rw [List.getElem?_eq_getElem hi1] at eux; exact Option.some.inj eux
              have q2 : its2[i] = uy := by rw [List.getElem?_eq_getElem hi2] at euy; exact Option.some.inj euy
              rw [q1, q2]
              have rx := rx.mono n.stp.fz
              have ry := ry.mono n.stp.fz
              unfold eqI at hf
              cases dx with
              | ob c fs =>
                simp only [Bool.and_eq_true] at hf
                obtain ⟨hk, hf⟩ := hf
                cases e1 : tb.lookup c with
                | none =>
                  rw [e1] at hf
                  cases hf
                | some B =>
                  rw [e1] at hf
                  have hf : isT (B [.ob c fs, dy]) = true := hf
                  obtain ⟨⟨f, fd, ps, ow⟩, ck⟩ := ht c B e1
                  have eo : ∃ q', B [.ob c fs, dy] = .ok (.bl true) q' := by
                    unfold isT at hf
                    split at hf
                    · rename_i q' e
                      exact ⟨q', e⟩
                    · cases hf
                  obtain ⟨q', eo⟩ := eo
                  have J1 := inst_at I' n.sta rx
                  obtain ⟨a', rfl, _⟩ := J1
                  obtain rfl : ux = Value.ref a' := rux
                  by_cases same : Value.ref a' = uy
                  · rw [← same]
                    exact SeqAt.EqAt.same (.ref a') X.prog X.w X.xe _ ⟨rfl, F', H', I', n⟩
                  · have sb1 : L2.Sub X k X.A.in1 := L2.Sub.in1 ⟨hr, rfl⟩
                    have rc := cmp_at (OX := OX) (W := W) (op := .Eq) (Q := fun z H2 => z = .bl true ∧ ∃ F2, Nx G OX O O σ F H σ F2 H2 r) sb1 tk rfl ow ck hk hx hK I' n.sta rx ry rfl ruy (by
                      rw [eo]
                      intro z F2 H2 n2 rz
                      cases rz
                      exact ⟨rfl, F2, n.trans n2⟩)
                    unfold eqBool
                    refine wpAny_holding ?_
                    refine wpAny_ite_split (fun hab => absurd (eq_of_beq hab) same) (fun _ => ?_)
                    refine wpAny_bind (wpAny_mono rc (fun z s2 hz => ?_) fun _ _ h => h)
                    obtain ⟨z', H2, I2, rz, ez, F2, n2⟩ := hz
                    subst ez
                    cases (show z = Value.bool true from rz)
                    exact wpAny_truthy_bool ⟨rfl, F2, H2, I2, n2⟩
              | _ => cases hf
            · obtain ⟨F', H', I', n⟩ := hI
              exact ⟨.bl true, H', I', rfl, q _ F' H' n .bl⟩
    · exact low pins s σ F H r _ _ v w u u' Q I S rx ry ru ru' q
end
end Z

/-! The head's facts. -/
namespace Z
open PySem PySem.Spec PyProof.Rows L2

/-- where a def stands: a module's name; a class's method, property, static method -/
inductive Wh where
  | glo (x : Str)
  | met (x m : Str)
  | prp (x m : Str)
  | sta (x m : Str)
def recAt (K : PySem.W.Frag) (p : Addr) (T : String) : Addr := match PySem.W.recIn K p T with
  | some (.ref f :: _) => f
  | _ => 0
def Wh.ad (K : PySem.W.Frag) : Wh → Addr
  | .glo x => He.ga K x
  | .met x m => He.ma K (He.ga K x) m
  | .prp x m => recAt K (He.ma K (He.ga K x) m) "property"
  | .sta x m => recAt K (He.ma K (He.ga K x) m) "staticmethod"
structure DefZ where
  wh : Wh
  name : Str
  qual : Str
  params : Arguments
  body : List Stmt
  scope : Scope
  dfl : List He.Dv := []
def fnZ (K : PySem.W.Frag) (p : Wh) : He.FnW := match K.lookup (p.ad K) with
  | some ⟨_, _, .func g, _⟩ => some (g.name, g.qualname, g.params, g.body, g.scope, g.globals, g.closure, g.builtins)
  | _ => none
def DefZ.val (d : DefZ) : He.FnW := some (d.name, d.qual, d.params, .stmts d.body, d.scope, mainGlobals, [], builtinsNs)
def DefZ.dvs (K : PySem.W.Frag) (d : DefZ) : List V := d.dfl.map (He.Dv.v K)
def DefZ.ok (K : PySem.W.Frag) (d : DefZ) : Bool := PySem.W.keepIn K (.ref (d.wh.ad K)) && (match K.lookup (d.wh.ad K) with
  | some ⟨_, _, .func g, _⟩ => PySem.W.codeIn K g.code d.qual && He.dflB K g.defaults (d.dvs K)
  | _ => false)
theorem DefZ.funD {K : PySem.W.Frag} {d : DefZ} (e : fnZ K d.wh = d.val) (c : d.ok K = true) : ∃ fd, FunD K d.name d.qual d.params d.body d.scope (d.dvs K) [] (d.wh.ad K) fd := by
  obtain ⟨kp, c2⟩ := He.ba c
  unfold fnZ at e
  cases q : K.lookup (d.wh.ad K) with
  | none =>
    rw [q] at c2
    cases c2
  | some o =>
    obtain ⟨oc, od, dt, osl⟩ := o
    rw [q] at c2 e
    cases dt with
    | func g =>
      obtain ⟨m1, m2, m3, m4, m5, m6, m7, m8, m9, m10, m11, m12, m13, m14, m15⟩ := g
      have e2 : (some (m1, m2, m3, m4, m5, m6, m7, m15) : He.FnW) = some (d.name, d.qual, d.params, .stmts d.body, d.scope, mainGlobals, [], builtinsNs) := e
      simp only [Option.some.injEq, Prod.mk.injEq] at e2
      obtain ⟨g1, g2, g3, g4, g5, g6, g7, g8⟩ := e2
      subst g1 g2 g3 g4 g5 g6 g7 g8
      obtain ⟨k1, k2⟩ := He.ba (show (PySem.W.codeIn K m13 d.qual && He.dflB K m8 (d.dvs K)) = true from c2)
      exact ⟨_, ⟨oc, od, m8, m9, m10, m11, m12, m13, m14, osl, rfl, q, k1, He.dflB_ok k2, .inl rfl⟩, kp⟩
    | _ => cases c2
/-! ### facts -/
abbrev Fz : Type := PySem.W.Frag → Bool
/-- what an object names; nothing behind a code object is asked for -/
def refsZ (g : Addr → Option Obj) (a : Addr) : List Addr := match g a with
  | some o => (match o.cls with
    | .type n => (match n == "code" with
      | true => []
      | false => He.refsD o)
    | _ => He.refsD o)
  | none => []
/-- those of l that the mask lacks -/
def addZ : List Addr → Nat → List Addr → Nat × List Addr
  | [], m, acc => (m, acc)
  | b :: l, m, acc => HandSHeadRun.frNat b fun b => match Nat.beq (Nat.mod (Nat.shiftRight m b) 2) 1 with
    | true => addZ l m acc
    | false => HandSHeadRun.frNat (Nat.lor m (Nat.shiftLeft 1 b)) fun m => addZ l m (b :: acc)
def growZ (g : Addr → Option Obj) : Nat → List Addr → Nat → List Addr → List Addr
  | 0, _, _, all => all
  | n + 1, fr, m, all => match addZ (fr.flatMap (refsZ g)) m [] with
    | (m, new) => HandSHeadRun.frNat m fun m => growZ g n new m (all ++ new)
def asZ (g : Addr → Option Obj) (n : Nat) : List Addr := growZ g n [mainGlobals, cStatics] (Nat.lor (Nat.shiftLeft 1 mainGlobals) (Nat.shiftLeft 1 cStatics)) [mainGlobals, cStatics]
def obsZ (fa : List Fz) (fn : List DefZ) (K : PySem.W.Frag) : He.AlD := ((fa.all fun f => f K) && fn.all fun d => d.ok K, fn.map fun d => fnZ K d.wh)
def valZ (fn : List DefZ) : He.AlD := (true, fn.map DefZ.val)
def SaysZ (fa : List Fz) (fn : List DefZ) (K : PySem.W.Frag) : Prop := obsZ fa fn K = valZ fn
def obsZG (n : Nat) (fa : List Fz) (fn : List DefZ) (g : Addr → Option Obj) : He.AlD := obsZ fa fn (He.frG g (asZ g n))
def hookZ (n : Nat) (fa : List Fz) (fn : List DefZ) : PySem.W.Hook where
  α := He.AlD
  obs := fun s => obsZG n fa fn s.heap.get?
  val := fun _ => valZ fn
  says := fun _ h => ∃ K : PySem.W.Frag, K.In h ∧ SaysZ fa fn K
  of := fun _ _ e => ⟨_, He.frG_in, e⟩
  keeps := fun _ _ _ ⟨K, hK, c⟩ k => ⟨K, PySem.W.Frag.In.keeps hK k, c⟩
theorem obsZG_eq {n : Nat} {fa : List Fz} {fn : List DefZ} {g : Addr → Option Obj} {s : Shared} (h : ∀ a, g a = s.heap.get? a) : obsZG n fa fn g = (hookZ n fa fn).obs s := by
  rw [show g = s.heap.get? from funext h]
  rfl
section
variable {fa : List Fz} {fn : List DefZ} {K : PySem.W.Frag}
theorem SaysZ.fact (c : SaysZ fa fn K) (i : Nat) {f : Fz} (h : fa[i]? = some f := by rfl) : f K = true := by
  have h1 := (He.ba (show ((fa.all fun f => f K) && fn.all fun d => d.ok K) = true from congrArg (fun z : He.AlD => z.1) c)).1
  exact List.all_eq_true.mp h1 f (List.mem_of_getElem? h)
theorem SaysZ.def_ (c : SaysZ fa fn K) (i : Nat) {d : DefZ} (h : fn[i]? = some d := by rfl) : ∃ fd, FunD K d.name d.qual d.params d.body d.scope (d.dvs K) [] (d.wh.ad K) fd := by
  have h2 := (He.ba (show ((fa.all fun f => f K) && fn.all fun d => d.ok K) = true from congrArg (fun z : He.AlD => z.1) c)).2
  have h3 : fn.map (fun d => fnZ K d.wh) = fn.map DefZ.val := congrArg (fun z : He.AlD => z.2) c
  have h4 : (fn.map fun d => fnZ K d.wh)[i]? = (fn.map DefZ.val)[i]? := by rw [h3]
  rw [List.getElem?_map, List.getElem?_map, h] at h4
  exact DefZ.funD (Option.some.inj h4) (List.all_eq_true.mp h2 d (List.mem_of_getElem? h))
end
/-! ### what the facts say -/
def eqF {α : Type} [DecidableEq α] (a b : α) : Bool := decide (a = b)
def fGlo (x : Str) : Fz := fun K => (He.Fa.glo x).ok K
def fFree (x : Str) : Fz := fun K => (He.Fa.free x).ok K
def fBlt (x : Str) (id : String) : Fz := fun K => eqF (PySem.W.nsIn K mainGlobals x) (some (some (.builtin id)))
def fInt (x : Str) (i : Int) : Fz := fun K => (He.Fa.int x i).ok K
def fStr (x i : Str) : Fz := fun K => (He.Fa.str x i).ok K
def fCls (x : Str) (fs : List Str) : Fz := fun K => (He.Fa.cls x).ok K && fs.all fun f => (He.Fa.noat x f).ok K
def fMk (x : Str) : Fz := fun K => (He.Fa.mkr x).ok K
def fMet (x m : Str) : Fz := fun K => (He.Fa.meth x m).ok K
def fTy (x : Str) : Fz := fun K => eqF (PySem.W.findIn K (.ref (He.ga K x)) "__class__") (some (some (.builtin "object.__class__"))) && (eqF (PySem.W.specialIn K (.builtin "object.__class__") "__get__") (some (some (.builtin "getset_descriptor.__get__"))) &&
  (eqF (PySem.W.takesIn K (.builtin "object.__class__")) (some true) && eqF (PySem.W.mroIn K (He.ga K x) (.type "object")) (some true)))
def fKiT (x : Str) (n : String) : Fz := fun K => eqF (PySem.W.kitOne K (.ref (He.ga K x)) (.type n)) (some false)
def fKiO (x y : Str) (b : Bool) : Fz := fun K => eqF (PySem.W.kitOne K (.ref (He.ga K x)) (.ref (He.ga K y))) (some b)
def fKiB (y : Str) : Fz := fun K => allTy.all fun m => eqF (PySem.W.kitOne K (.type m) (.ref (He.ga K y))) (some false)
def fRd (x dr : Str) : Fz := fun K => match PySem.W.findIn K (.ref (He.ga K x)) dr with
  | some none => true
  | some (some (.ref _)) => true
  | _ => false
def fSf (x : Str) : Fz := fun K => PySem.W.selfFirst K (He.ga K x)
def fBiT (x dn dr : Str) (T : String) : Fz := fun K => (PySem.W.findIn K (.type T) dn).isSome && ((PySem.W.findIn K (.type T) dr).isSome && eqF (PySem.W.subIn K (.type T) (.ref (He.ga K x))) (some false))
def fSub (x y : Str) : Fz := fun K => eqF (PySem.W.subIn K (.ref (He.ga K y)) (.ref (He.ga K x))) (some false) && !eqF (He.ga K x) (He.ga K y)
def fNfT (x : Str) (T : String) : Fz := fun K => PySem.W.notFirst K (He.ga K x) (.type T)
def fNfO (x y : Str) : Fz := fun K => PySem.W.notFirst K (He.ga K x) (.ref (He.ga K y))
def fNe (x : Str) : Fz := fun K => eqF (PySem.W.findIn K (.ref (He.ga K x)) "__ne__") (some (some (.builtin "object.__ne__")))
def fPrp (x m : Str) : Fz := fun K => eqF (PySem.W.findIn K (.ref (He.ga K x)) m) (some (some (.ref (He.ma K (He.ga K x) m)))) && (eqF (PySem.W.specialIn K (.ref (He.ma K (He.ga K x) m)) "__get__") (some (some (.builtin "property.__get__"))) &&
  (eqF (PySem.W.takesIn K (.ref (He.ma K (He.ga K x) m))) (some true) && (match PySem.W.recIn K (He.ma K (He.ga K x) m) "property" with
    | some (.ref _ :: _) => true
    | _ => false)))
def fSta (x m : Str) : Fz := fun K => PySem.W.readsIn K (He.ga K x) (.type "type") && (eqF (PySem.W.specialIn K (.ref (He.ga K x)) "__getattribute__") (some (some (.builtin "type.__getattribute__"))) &&
  ((match PySem.W.findCls K (.ref (He.ga K x)) (.type "type") m with
    | some (.get (.builtin "staticmethod.__get__") (.ref p) .none (.ref C)) => eqF p (He.ma K (He.ga K x) m) && eqF C (He.ga K x)
    | _ => false) && (match PySem.W.recIn K (He.ma K (He.ga K x) m) "staticmethod" with
    | some (.ref _ :: _) => true
    | _ => false)))
section
variable {K : PySem.W.Frag} {h : Heap} {mg : Str → Option Value}
theorem eqF_ok {α : Type} [DecidableEq α] {a b : α} (h : eqF a b = true) : a = b := of_decide_eq_true h
theorem blt_ok (X : K.In h) (G : h.Ns mainGlobals mg) {x : Str} {id : String} (c : fBlt x id K = true) : mg x = some (.builtin id) := PySem.W.mg_of X G (eqF_ok c)
theorem noat_all {x : Str} {fs : List Str} (c : fCls x fs K = true) : Cls K (He.ga K x) ∧ ∀ f ∈ fs, NoAttr K (He.ga K x) f := by
  obtain ⟨a, b⟩ := He.ba c
  exact ⟨He.cls_ok a, fun f hf => He.noat_ok (List.all_eq_true.mp b f hf)⟩
theorem rd_ok {x dr : Str} (c : fRd x dr K = true) : ∃ rc, PySem.W.findIn K (.ref (He.ga K x)) dr = some rc ∧ (rc = none ∨ ∃ g : Addr, rc = some (.ref g)) := by
  unfold fRd at c
  split at c
  · rename_i e
    exact ⟨_, e, .inl rfl⟩
  · rename_i g e
    exact ⟨_, e, .inr ⟨g, rfl⟩⟩
  · cases c
theorem biT_ok {x dn dr : Str} {T : String} (c : fBiT x dn dr T K = true) : (∃ fo ro, PySem.W.findIn K (.type T) dn = some fo ∧ PySem.W.findIn K (.type T) dr = some ro) ∧ PySem.W.subIn K (.type T) (.ref (He.ga K x)) = some false := by
  obtain ⟨a, b⟩ := He.ba c
  obtain ⟨b, d⟩ := He.ba b
  obtain ⟨fo, e1⟩ := Option.isSome_iff_exists.mp a
  obtain ⟨ro, e2⟩ := Option.isSome_iff_exists.mp b
  exact ⟨⟨fo, ro, e1, e2⟩, eqF_ok d⟩
theorem sub_ok {x y : Str} (c : fSub x y K = true) : PySem.W.subIn K (.ref (He.ga K y)) (.ref (He.ga K x)) = some false ∧ He.ga K x ≠ He.ga K y := by
  obtain ⟨a, b⟩ := He.ba c
  refine ⟨eqF_ok a, fun z => ?_⟩
  rw [show eqF (He.ga K x) (He.ga K y) = true from decide_eq_true z] at b
  cases b
theorem prp_ok {x m : Str} (c : fPrp x m K = true) : PropOf K (He.ga K x) m (He.ma K (He.ga K x) m) ((Wh.prp x m).ad K) := by
  obtain ⟨a, b⟩ := He.ba c
  obtain ⟨b, d⟩ := He.ba b
  obtain ⟨d, e⟩ := He.ba d
  refine ⟨eqF_ok a, eqF_ok b, eqF_ok d, ?_⟩
  show ∃ rest, PySem.W.recIn K (He.ma K (He.ga K x) m) "property" = some (.ref (recAt K (He.ma K (He.ga K x) m) "property") :: rest)
  unfold recAt
  revert e
  split
  · rename_i g rest e
    intro _
    rw [e]
    exact ⟨rest, rfl⟩
  · exact fun z => nomatch z
theorem sta_ok {x m : Str} (c : fSta x m K = true) : PySem.W.readsIn K (He.ga K x) (.type "type") = true ∧ PySem.W.specialIn K (.ref (He.ga K x)) "__getattribute__" = some (some (.builtin "type.__getattribute__")) ∧
    ∃ p rest, PySem.W.findCls K (.ref (He.ga K x)) (.type "type") m = some (.get (.builtin "staticmethod.__get__") (.ref p) .none (.ref (He.ga K x))) ∧ PySem.W.recIn K p "staticmethod" = some (.ref ((Wh.sta x m).ad K) :: rest) := by
  obtain ⟨a, b⟩ := He.ba c
  obtain ⟨b, d⟩ := He.ba b
  obtain ⟨d, e⟩ := He.ba d
  refine ⟨a, eqF_ok b, He.ma K (He.ga K x) m, ?_⟩
  have h1 : PySem.W.findCls K (.ref (He.ga K x)) (.type "type") m = some (.get (.builtin "staticmethod.__get__") (.ref (He.ma K (He.ga K x) m)) .none (.ref (He.ga K x))) := by
    revert d
    split
    · rename_i p C q
      intro d
      obtain ⟨d1, d2⟩ := He.ba d
      rw [q, ← eqF_ok d1, ← eqF_ok d2]
    · exact fun z => nomatch z
  show ∃ rest, _ ∧ PySem.W.recIn K (He.ma K (He.ga K x) m) "staticmethod" = some (.ref (recAt K (He.ma K (He.ga K x) m) "staticmethod") :: rest)
  unfold recAt
  revert e
  split
  · rename_i g rest e
    intro _
    exact ⟨rest, h1, by rw [e]⟩
  · exact fun z => nomatch z
end
/-! ### the end -/
theorem walk_ofZ {l : PySem.W.OpenLaw} {n k : Nat} {q : Program} {loose : List Str} {XP : (Str → Option Value) → Heap → Prop} {YP : World → Heap → Prop} {d : DefRec} {x : Str}
    (hn : l.most = some n) (hn2 : n ≤ sizeLine) (hdf : d.params.defaults = []) (hr : Room k callerA)
    (F : ∀ (w : World) (mg : Str → Option Value) (fa : Addr) (h : Heap), YP w h → h.Ns mainGlobals mg → mg d.name = some (.ref fa) →
      ∃ (K : PySem.W.Frag) (fd : FuncData) (sp : Sp), K.In h ∧ (∀ (s : Shared) (u : Value), BindsTo s fd ⟨[u], []⟩ [(x, u)]) ∧
        (∀ (H : Hp) (a : Addr) (ns : List Int), ns.length ≤ n → Only H → SqL K H a (ns.map V.int) → sp [.ref a] H (fun v _ => v = .bl true) fun _ _ _ => False) ∧
        ∀ base : Heap, K.In base → base.Ns mainGlobals mg → FnOk l.prog w K mg base (L2.CX l.prog w) k fa fd [x] sp) :
    PySem.W.WalkO q loose XP YP l.row.toRowW d [] (fun f vs => PySem.call f vs) := by
  refine Att.attach_call hn hdf fun w s₀ s₁ mg mb fa o pm cd doc a vs ns G Y ho hd hcd hmg hobj hints hlen hg => ?_
  obtain ⟨K, fd, sp, KX, hb, hsp, hF⟩ := F w mg fa _ Y G.T.g hmg
  refine law_call KX G.T.g G.T.b G.T.builtins G.T.nolimit hg hobj hints (Nat.le_trans hlen hn2) hr hF hb (fun H hO hS => hsp H a ns hlen hO hS) fun H e s' z => ?_
  obtain ⟨_, _, _, _, _, _, _, _, _, _, _, _, z⟩ := z
  exact z
end Z

/-! Defs that give a new object away; calls that lend an own one. -/
namespace Z
open PySem PySem.Spec PyProof.Rows L2

def mkF (n m : Nat) (b : M D) : Beh := fun ds => if ds.length = n then (match b (ds.map some ++ List.replicate (m - n) none) with
  | .ok d r => .ok d (keepE [] n r)
  | .ex e r => .ex e (keepE [] n r)
  | .no => .no) else .no
/-- .. the value is new, nobody else's -/
def spF (G : Gm) (n : Nat) (B : Beh) : Sp := fun vs H Q E => vs.length = n ∧ ∃ F ds, Sta G [] F H (vs.map some) (ds.map some) ∧ Pst G (fun c dx _ H' => E c dx H') [] [] [] (vs.map some) F H (RF G [] (vs.map some) H) Q (B ds)
abbrev FnF (P : Program) (w : World) (G : Gm) (mg : Str → Option Value) (base : Heap) (k : Nat) (f : Addr) (fd : FuncData) (ps : List Str) (n : Nat) (B : Beh) : Prop := FnOk P w G.K mg base (L2.CX P w) k f fd ps (spF G n B)
section
variable {G : Gm} {X : Cx} {W : WX} {OX OL vs O O1 O2 O3 : List Nat}
theorem start_sta {N : List Str} {n m : Nat} {vs : List V} {ds : List D} {F H : Hp} (hm : N.length = m) (hl : vs.length = n) (hnm : n ≤ m) (St : Sta G [] F H (vs.map some) (ds.map some)) : Sta G [] F H (L2.start N vs) (ds.map some ++ List.replicate (m - n) none) := by
  have hds : ds.length = n := by
    have := St.len
    rw [List.length_map, List.length_map] at this
    omega
  have e : L2.start N vs = vs.map some ++ List.replicate (m - n) none := by
    unfold L2.start
    rw [hm, hl]
  rw [e]
  refine ⟨St.sub, St.wf, by simp [hds, hl], fun i d hi q => ?_, fun i hi => (nomatch hi), fun i j a hi => (nomatch hi)⟩
  by_cases hlt : i < n
  · rw [List.getElem?_append_left (by simp; omega)] at q ⊢
    exact St.rp i d hi q
  · rw [List.getElem?_append_right (by simp; omega)] at q
    have := List.mem_of_getElem? q
    rw [List.mem_replicate] at this
    cases this.2
theorem def_okF {P : Program} {w : World} {mg : Str → Option Value} {base : Heap} {x qual : Str} {params : Arguments} {e : Expr} {rp : Pos} {scope : Scope} {dvs : List V} {kws : List (Str × V)} {f : Addr} {fd : FuncData} {N ps : List Str} {k : Nat} {n m : Nat} {b : M D} {body : List Stmt}
    (F : FunD G.K x qual params body scope dvs kws f fd) (S : FnScope N ps scope) (hbd : body = [.Return (some e) rp])
    (hb : ∀ (cdv : Value) (A : Around) (outer : List PySem.Env) (s : Shared) (H : Hp) (E : XK), Room k (cxOf (L2.CX P w) P w G.K mg base N qual scope f cdv A outer s H E).A → Takes (cxOf (L2.CX P w) P w G.K mg base N qual scope f cdv A outer s H E) (fun cls d _ H => E cls d H) →
      PE (cxOf (L2.CX P w) P w G.K mg base N qual scope f cdv A outer s H E) e (tF G (fun cls d _ H => E cls d H) [] [] [] b)) (hn : ps.length = n := by rfl) (hm : N.length = m := by rfl) : FnF P w G mg base (k + 1) f fd ps n (mkF n m b) := by
  subst hbd
  refine F.ok S (fun vs H Q E h => h.1.trans hn.symm) (fun cdv A outer s H vs Q E hr h => ⟨_, pss_one (ps_ret (hb cdv A outer s H E hr (takes_of rfl rfl rfl rfl))), ?_⟩)
  obtain ⟨hl, F0, ds, St, p⟩ := h
  have hds : ds.length = n := by
    have := St.len
    rw [List.length_map, List.length_map] at this
    omega
  have hnm : n ≤ m := by
    have h1 := congrArg List.length S.pre
    rw [List.length_take] at h1
    omega
  have SS := start_sta (N := N) hm hl hnm St
  refine ⟨F0, _, SS, ?_⟩
  unfold mkF at p
  rw [if_pos hds] at p
  have et : (L2.start N vs).take n = vs.map some := by
    unfold L2.start
    rw [List.take_left' (by simp [hl])]
  have hln : n ≤ (L2.start N vs).length := by rw [← SS.len]; simp [hds]
  revert p
  cases b (ds.map some ++ List.replicate (m - n) none) with
  | no => exact fun p => p
  | ex e q =>
    intro p c dx F' H' n' xr
    have c1 := n'.cut (n := n) (fun _ z => nomatch z) hln
    rw [et] at c1
    exact p c dx F' H' c1 xr
  | ok d q =>
    intro p v F' H' n' rf
    have c1 := n'.cut (n := n) (fun _ z => nomatch z) hln
    rw [et] at c1
    exact p v F' H' c1 ⟨rf.1, fun a ea => ⟨(rf.2 a ea).1, notOwn_nil⟩⟩
theorem spF_of {σ : L2.St} {F H : Hp} {r : Ev} {ds : List D} {vs : List V} {n : Nat} {B : Beh} {Q : VK} (hx : ∀ i ∈ OX, i ∈ O) (S : Sta G O F H σ r) (h : RepL G F ds vs) (hn : vs.length = n) {σ0 : L2.St} {H0 : Hp} (hH : ∀ a, H a = none → H0 a = none) (p : Pst G W OX O O σ F H (RF G O σ0 H0) Q (out0 (B ds) r)) (e0 : σ0 = σ) :
    spF G n B vs H Q (fun c dx H' => W c dx σ H') := by
  subst e0
  refine ⟨hn, F, ds, Sta.args S.sub S.wf h, ?_⟩
  have stay : ∀ {F' H' : Hp} {r' : Ev}, Nx G [] [] [] (vs.map some) F H (vs.map some) F' H' r' → Nx G OX O O σ0 F H σ0 F' H' r := fun {F' H' r'} n =>
    Nx.of (S.stay (n.stp.weak (Mo1 := fun _ => False) fun x z => absurd z notOwn_nil) n.sta.sub n.sta.wf fun _ _ z => z) (n.stp.weak fun x z => absurd z notOwn_nil) fun _ h => h
  revert p
  cases B ds with
  | no => exact fun p => p
  | ok d q =>
    intro p v F' H' n rf
    refine p v F' H' (stay n) ⟨rf.1, fun a ea => ⟨hH a (rf.2 a ea).1, fun ⟨i, hi, ei⟩ => ?_⟩⟩
    obtain ⟨d', v', _, e2, ow⟩ := S.ow i hi
    rw [ei] at e2
    cases e2
    obtain ⟨b, o, eb, hb⟩ := ow.there
    cases eb
    rw [(rf.2 a ea).1] at hb
    cases hb
  | ex e q => exact fun p c dx F' H' n x => let ⟨F2, n2, sb⟩ := (stay n).freeze hx; p c dx F2 H' n2 (x.mono sb)
structure GfOk (G : Gm) (P : Program) (w : World) (mg : Str → Option Value) (base : Heap) (k : Nat) (x : Str) (n : Nat) (B : Beh) (f : Addr) (fd : FuncData) (ps : List Str) : Prop where
  at_ : mg x = some (.ref f)
  kp : PySem.W.keepIn G.K (.ref f) = true
  fn : FnF P w G mg base k f fd ps n B
  bd : Binds G.K fd ps []
  ar : ∀ ds, ds.length ≠ n → B ds = .no
theorem arF_of {n m : Nat} {b : M D} : ∀ ds, ds.length ≠ n → mkF n m b ds = .no := fun ds h => if_neg h
/-- f(e, ..), the value this code's own -/
theorem e_callF {x : Str} {p pos : Pos} {e : Expr} {es : List Expr} {k n : Nat} {B : Beh} {f : Addr} {fd : FuncData} {ps : List Str} {g : M (List D)} (tk : Takes X W) (hr : Room k X.A) (gl : GfOk G X.prog X.w X.mg X.base k x n B f fd ps)
    (ha : PA X (e :: es) (tA G W OX O O1 g)) (hx : ∀ i ∈ OX, i ∈ O1 := by decide) (hg : Gl X x := by rfl) (hK : X.K = G.K := by rfl) (hdb : (x == ("__debug__" : Str)) = false := by decide)
    (he : starEach (e :: es) X.env = (false, eval e X.env) :: starEach es X.env := by rfl) (hpl : (backTo pos (starEach es X.env)).any (·.1) = false := by rfl) : PE X (.Call (.Name x p) (e :: es) [] pos) (tF G W OX O O1 (eCd B [] g)) := by
  refine ⟨fun pins s σ H Q I ⟨F, r, S, p⟩ => ?_⟩
  refine wpAny_Call_Name_kw (ld_glob I hg gl.at_ ?_ hdb)
  refine PySem.W.callWith_K (h₀ := X.base) I.ok.mod.kin (by rw [hK]; exact gl.kp) (thn (ha.run pos pins s σ H (fun vs H1 => ∃ ds F1 r1, Nx G OX O O1 σ F H σ F1 H1 r1 ∧ RepL G F1 ds vs ∧ Pst G W OX O1 O1 σ F1 H1 (RF G O1 σ H) Q (out0 (B (ds ++ [])) r1)) I
    (tX_bind S p fun ds vs F1 H1 r1 n1 rs p => ⟨ds, F1, r1, n1, rs, p⟩)) fun us s1 ⟨vs, H1, I1, rv, ds, F1, r1, n1, rs, p⟩ => ⟨I1.kIn, ?_⟩) he hpl
  have Fk : FnOk X.prog X.w X.K X.mg X.base (L2.CX X.prog X.w) k f fd ps (spF G n B) := by rw [hK]; exact gl.fn
  rw [List.append_nil] at p
  have hl : vs.length = n := by
    by_cases h : ds.length = n
    · rw [← rs.length, h]
    · rw [gl.ar ds h] at p
      exact p.elim
  have sp := spF_of hx n1.sta rs hl (fun a => n1.stp.tr a) p rfl
  have z := run_fnSD (E := WE W) (dvs := []) (ds := []) Fk hr (by rw [hK]; exact gl.bd) .nil (passAt tk σ) I1 rv (by rw [List.append_nil]; exact sp)
  exact z
/-- [e, ..]: a new list of this code's own -/
theorem f_lst {es : List Expr} {pos : Pos} {f : M (List D)} (h : PA X es (tA G W OX O O1 f)) : PE X (.List es pos) (tF G W OX O O1 (eN pLst f)) :=
  (pe_lst h).imp fun σ H Q ⟨F, r, S, p⟩ => tX_bind S p fun ds vs F1 H1 r1 n1 rs p => by
    revert p
    unfold pLst
    by_cases hz : okLen ds = true
    · rw [if_pos hz]
      intro p
      refine ⟨big_line (by have := rs.length; have := of_decide_eq_true hz; omega), fun q hq => ?_⟩
      obtain ⟨S2, s2, fp⟩ := new_ow (o := .lst vs) n1.sta hq rfl
      refine p _ F1 _ (Nx.of S2 s2 fun _ h => h) ⟨.lst upd_same fp rs, fun b eb => ?_⟩
      cases eb
      refine ⟨n1.stp.tr _ hq, fun ⟨i, hi, ei⟩ => ?_⟩
      obtain ⟨d', v', _, e2', ow⟩ := n1.sta.ow i hi
      rw [ei] at e2'
      cases e2'
      obtain ⟨b, o, eb, hb⟩ := ow.there
      cases eb
      rw [hq] at hb
      cases hb
    · rw [if_neg hz]
      exact fun p => p.elim
/-- f(x, e, ..), x this code's own: the def may change it -/
theorem e_callO {x y : Str} {p py pos : Pos} {es : List Expr} {k n : Nat} {B : Beh} {f : Addr} {fd : FuncData} {ps : List Str} {g : M (List D)} (i : Nat) (tk : Takes X W) (hr : Room k X.A) (gl : GlOk G X.prog X.w X.mg X.base k x n [0] B f fd ps) (hb : Binds G.K fd ps [])
    (ha : PA X es (tA G W OX O O1 g)) (hi : i ∈ O := by decide) (hi1 : i ∈ O1 := by decide) (hx : ∀ i ∈ OX, i ∈ O1 := by decide) (hN : X.N[i]? = some y := by rfl) (hv : Vis X.env.scope y := by first | exact Or.inl rfl | exact Or.inr (Or.inl rfl) | exact Or.inr (Or.inr rfl)) (hg : Gl X x := by rfl) (hK : X.K = G.K := by rfl)
    (hd : (y == ("__debug__" : Str)) = false := by decide) (hcd : (y == ("__classdict__" : Str)) = false := by decide) (hdb : (x == ("__debug__" : Str)) = false := by decide)
    (he : starEach (.Name y py :: es) X.env = (false, eval (.Name y py) X.env) :: starEach es X.env := by rfl) (hpl : (backTo pos (starEach es X.env)).any (·.1) = false := by rfl) : PE X (.Call (.Name x p) (.Name y py :: es) [] pos) (tE G W OX O O1 (eCo B i g)) := by
  refine ⟨fun pins s σ H Q I ⟨F, r, S, p⟩ => ?_⟩
  refine wpAny_Call_Name_kw (ld_glob I hg gl.at_ ?_ hdb)
  obtain ⟨d0, v0, _, e0, o0⟩ := S.ow i hi
  refine PySem.W.callWith_K (h₀ := X.base) I.ok.mod.kin (by rw [hK]; exact gl.kp) (thn ((pa_cons (pe_var hN hv hd hcd) ha he).run pos pins s σ H (fun vs H1 => ∃ vs', vs = v0 :: vs' ∧ ∃ ds F1 r1, Nx G OX O O1 σ F H σ F1 H1 r1 ∧ RepL G F1 ds vs' ∧ Pst G W OX O1 O1 σ F1 H1 (RD G) Q (match r1[i]? with
    | some (some d0) => out1 (B (d0 :: ds)) i r1
    | _ => .no)) I ⟨v0, e0, tX_bind S p fun ds vs F1 H1 r1 n1 rs p => ⟨vs, rfl, ds, F1, r1, n1, rs, p⟩⟩) fun us s1 ⟨vs, H1, I1, rv, vs', ev, ds, F1, r1, n1, rs, p⟩ => ⟨I1.kIn, ?_⟩) he hpl
  subst ev
  have Fk : FnOk X.prog X.w X.K X.mg X.base (L2.CX X.prog X.w) k f fd ps (spB G n [0] B) := by rw [hK]; exact gl.fn
  revert p
  split
  · rename_i d1 e1
    intro p
    have hl : (d1 :: ds).length = n := by
      by_cases h : (d1 :: ds).length = n
      · exact h
      · rw [gl.ar _ h] at p
        exact p.elim
    have hl2 : (v0 :: vs').length = n := by rw [← hl, List.length_cons, List.length_cons, rs.length]
    have sp := spB_of1 hx n1.sta hi1 e1 e0 rs hl2 p
    exact run_fnSD (E := WE W) (dvs := []) (ds := []) Fk hr (by rw [hK]; exact hb) .nil (passAt tk σ) I1 rv (by rw [List.append_nil]; exact sp)
  · exact fun p => p.elim
end
end Z

/-! Forms that the printed derivations use. -/
namespace Z
open PySem PySem.Spec PyProof.Rows L2

theorem lk_nil {α : Type} {p : Nat → α → Prop} : ∀ c a, List.lookup c ([] : List (Nat × α)) = some a → p c a := fun _ _ e => nomatch e
theorem lk_cons {α : Type} {p : Nat → α → Prop} {d : Nat} {b : α} {tb : List (Nat × α)} (h : p d b) (t : ∀ c a, tb.lookup c = some a → p c a) : ∀ c a, List.lookup c ((d, b) :: tb) = some a → p c a := fun c a e => by
  rw [List.lookup_cons] at e
  split at e
  · rename_i q
    cases e
    rw [beq_iff_eq.mp q]
    exact h
  · exact t c a e
theorem mem_nil {α : Type} {p : α → Prop} : ∀ a ∈ ([] : List α), p a := fun _ h => nomatch h
theorem mem_cons {α : Type} {p : α → Prop} {b : α} {l : List α} (h : p b) (t : ∀ a ∈ l, p a) : ∀ a ∈ b :: l, p a := fun a m => by
  rcases List.mem_cons.mp m with e | m
  · rw [e]
    exact h
  · exact t a m
theorem bindK0 {K : PySem.W.Frag} {x qual : Str} {params : Arguments} {body : List Stmt} {scope : Scope} {f : Addr} {fd : FuncData} {ps : List Str} (F : FunD K x qual params body scope [] [] f fd) (n : Nat) (ks : List Str) (o : List Nat)
    (h : ∀ (kV doc pm : Value) (an : Option Addr) (cdv ct : Value) (us ws : List Value), us.length = n → ws.length = ks.length → bindArgs (PySem.W.fnOf x qual params body scope .none kV doc pm an cdv ct) ⟨us, ks.zip ws⟩ = pure (ps.zip (permL o (us ++ ws ++ [])))) : BindK K fd ps n ks o [] := by
  obtain ⟨oc, od, dV, kV, doc, pm, an, cdv, ct, osl, rfl, lk, hcd, hD, hK⟩ := F.ex
  rcases hD with ⟨_, rfl⟩ | ⟨e, _⟩
  · exact fun s us ws _ h1 h2 => .of_eq (h kV doc pm an cdv ct us ws h1 h2)
  · exact absurd rfl e
theorem fn_up {P : Program} {w : World} {G : Gm} {mg : Str → Option Value} {base : Heap} {j k : Nat} {f : Addr} {fd : FuncData} {ps : List Str} {n : Nat} {io : List Nat} {B : Beh} (h : FnB P w G mg base j f fd ps n io B) (l : j ≤ k) : FnB P w G mg base k f fd ps n io B :=
  FnOk.mono h l
section
variable {G : Gm} {X : Cx} {W : WX} {OX OL vs O O1 O2 O3 : List Nat}
/-- the owned slots behind it as one writes them -/
theorem s_to {st : Stmt} {f : M Fl} (h : PS X st (tS G W OX OL O O1 f)) (e : O1 = O2 := by rfl) : PS X st (tS G W OX OL O O2 f) := e ▸ h
theorem g_to {tg : Expr} {g : Tg} (h : PG X tg (tG G OX vs O O1 g)) (e : O1 = O2 := by rfl) : PG X tg (tG G OX vs O O2 g) := e ▸ h
theorem e_gint {x : Str} {pos : Pos} {i : Int} (hm : ∃ t, X.mg x = some (.int i t)) (hg : Gl X x := by rfl) (hd : (x == ("__debug__" : Str)) = false := by decide) : PE X (.Name x pos) (tE G W OX O O (eK (.int i))) := by
  obtain ⟨t, hm⟩ := hm
  exact e_of (v := .int i) (pe_glob hg hm ⟨t, rfl⟩ hd) fun _ => .int
theorem e_gstr {x i : Str} {pos : Pos} (hm : ∃ t, X.mg x = some (.str i t)) (hg : Gl X x := by rfl) (hd : (x == ("__debug__" : Str)) = false := by decide) : PE X (.Name x pos) (tE G W OX O O (eK (.str i))) := by
  obtain ⟨t, hm⟩ := hm
  exact e_of (v := .str i) (pe_glob hg hm ⟨t, rfl⟩ hd) fun _ => .str
theorem e_bo1 {op : BoolOp} {a : Expr} {pos : Pos} {t : TE} (h : PE X a t) (he : eval (.BoolOp op [a] pos) X.env = eval a X.env := by rfl) : PE X (.BoolOp op [a] pos) t := ⟨fun pins s σ H Q I q => by rw [he]; exact h.run pins s σ H Q I q⟩
/-- a value's test, by its value -/
theorem tv_of {f : M D} {σ : L2.St} {H : Hp} {Q : Bool → Hp → Prop} (h : tT G W OX O O1 (tV f) σ H Q) : tE G W OX O O1 f σ H fun v H1 => ∃ c, v = .bl c ∧ Q c H1 := by
  obtain ⟨F, r, S, p⟩ := h
  refine tX_bind S p fun x v F1 H1 r1 n1 rx p => ?_
  revert p
  split
  · intro p
    cases rx
    exact ⟨_, rfl, p _ F1 H1 (Nx.rfl' n1.sta) rfl⟩
  · exact fun p => p.elim
theorem t_cmp {op : CmpOp} {a b : Expr} {pos : Pos} {o : D → D → Ev → Out D} {f g : M D} (ho : Op2 G X W OX O2 (compareOp op) o) (ha : PE X a (tE G W OX O O1 f)) (hb : PE X b (tE G W OX O1 O2 g)) (hm : behindInMarks op b = false := by first | exact nomark _ | rfl) :
    PT X (.Compare a [op] [b] pos) (tT G W OX O O2 (tV (eB o f g))) :=
  ⟨fun pins s σ H Q I h => by
    obtain ⟨F, r, S, p⟩ := tv_of h
    exact wpAny_isTrue_Compare1 (two ha hb I S p fun x y v w u u' s2 F2 H2 r2 I2 S2 rx ry ru ru' p => thn (ho pins s2 σ F2 H2 r2 x y v w u u' _ I2 S2 rx ry ru ru' p) fun c s3 ⟨z, H3, I3, rz, b, e, q⟩ => (by
      subst e
      cases rz
      exact wpAny_truthy_bool ⟨H3, I3, q⟩)) hm⟩
theorem t_isN {a : Expr} {j pos pos'} {f : M D} (ha : PE X a (tE G W OX O O1 f)) : PT X (.Compare a [.Is] [.Constant .none j pos'] pos) (tT G W OX O O1 (tV (eIsN f))) :=
  (pt_cmp (pc_isN ha) rfl).imp fun σ H Q h => by
    obtain ⟨F, r, S, p⟩ := tv_of h
    refine tX_bind S p fun x v F1 H1 r1 n1 rx p => ?_
    rw [rx.isN]
    exact p.ok n1.sta .bl
theorem t_notN {a : Expr} {j pos pos'} {f : M D} (ha : PE X a (tE G W OX O O1 f)) : PT X (.Compare a [.IsNot] [.Constant .none j pos'] pos) (tT G W OX O O1 (tV (eNotN f))) :=
  (pt_cmp (pc_notN ha) rfl).imp fun σ H Q h => by
    obtain ⟨F, r, S, p⟩ := tv_of h
    refine tX_bind S p fun x v F1 H1 r1 n1 rx p => ?_
    rw [rx.isN]
    exact p.ok n1.sta .bl
theorem t_chain {op op' : CmpOp} {a b c : Expr} {pos : Pos} {o o' : D → D → Ev → Out D} {f g h : M D} (ho : Op2 G X W OX O (compareOp op) o) (ho' : Op2 G X W OX O (compareOp op') o') (ha : PE X a (tE G W OX O O f)) (hb : PE X b (tE G W OX O O g))
    (hc : PE X c (tE G W OX O O h)) (hm : lastMarks [op, op'] [b, c] = false := by with_unfolding_all rfl) : PT X (.Compare a [op, op'] [b, c] pos) (tT G W OX O O (tV (eChain o o' f g h))) := by
  refine ⟨fun pins s σ H Q I hh => ?_⟩
  obtain ⟨F, r, S, p⟩ := tv_of hh
  refine isTrue_chain (thn (ha.run pins s σ H (fun v H1 => ∃ x, tE G W OX O O g σ H1 fun w H2 => ∃ F2 r2 y, Sta G O F2 H2 σ r2 ∧ Rep G F2 x v ∧ Rep G F2 y w ∧ Pst G W OX O O σ F2 H2 (RD G) (fun v H1 => ∃ c, v = .bl c ∧ Q c H1)
      ((o x y r2).bind fun z r3 => onBl z fun b => if b then (h r3).bind fun w r4 => o' y w r4 else .ok (.bl false) r3)) I
    (tX_bind S p fun x v F1 H1 r1 n1 rx p => ⟨x, tX_bind n1.sta p fun y w F2 H2 r2 n2 ry p => ⟨F2, r2, y, n2.sta, rx.mono n2.stp.fz, ry, p⟩⟩)) fun u s1 ⟨v, H1, I1, ru, x, q1⟩ =>
    test_link (thn (hb.run pins s1 σ H1 _ I1 q1) fun u' s2 ⟨w, H2, I2, ru', F2, r2, y, S2, rx, ry, p⟩ => ?_)) hm
  refine thn (ho pins s2 σ F2 H2 r2 _ y v w u u' _ I2 S2 rx ry ru ru' (Pst.bind (Rl := RD G) (O1 := O) p)) fun d s3 ⟨v3, H3, I3, r3', z, F3, r3, n3, rz, p⟩ => ?_
  cases rz with
  | @bl b =>
    cases r3'
    refine wpAny_truthy_bool ?_
    cases b with
    | false =>
      obtain ⟨b', e', q'⟩ := p.ok n3.sta .bl
      cases e'
      exact ite_ff ⟨H3, I3, q'⟩
    | true =>
      refine ite_tt (test_last (thn (hc.run pins s3 σ H3 (fun w' H4 => ∃ F4 r4 z', Sta G O F4 H4 σ r4 ∧ Sub F3 F4 ∧ Rep G F4 z' w' ∧ Pst G W OX O O σ F4 H4 (RD G) (fun v H1 => ∃ c, v = .bl c ∧ Q c H1) (o' y z' r4)) I3
        (tX_bind n3.sta p fun z' w' F4 H4 r4 n4 rz p => ⟨F4, r4, z', n4.sta, n4.stp.fz, rz, p⟩)) fun u'' s4 ⟨w', H4, I4, r4', F4, r4, z', S4, sb4, rz, p⟩ => ?_))
      refine thn (ho' pins s4 σ F4 H4 r4 y z' w w' u' u'' _ I4 S4 (ry.mono (n3.stp.fz.trans sb4)) rz ru' r4' p) fun d' s5 ⟨z2, H5, I5, r5, k2, e2, q5⟩ => ?_
      subst e2
      cases r5
      exact wpAny_truthy_bool ⟨H5, I5, q5⟩
  | _ => exact p.elim
/-- x if c else y, as a test -/
theorem t_if {c a b : Expr} {pos : Pos} {t f g : M Bool} (hc : PT X c (tT G W OX O O1 t)) (ha : PT X a (tT G W OX O1 O2 f)) (hb : PT X b (tT G W OX O1 O2 g))
    (he : ∀ whole, isTrue (.IfExp c a b pos) X.env whole = (do if ← isTrue c X.env (eval c X.env) then isTrue a X.env (eval a X.env) else isTrue b X.env (eval b X.env)) := by intro _; rfl) : PT X (.IfExp c a b pos) (tT G W OX O O2 (fun r => (t r).bind fun z r1 => if z then f r1 else g r1)) :=
  ⟨fun pins s σ H Q I ⟨F, r, S, p⟩ => by
    rw [he]
    refine wpAny_bind (thn (hc.run pins s σ H (fun z H1 => ∃ F1 r1, Sta G O1 F1 H1 σ r1 ∧ Pst G W OX O1 O2 σ F1 H1 RB Q (if z then f r1 else g r1)) I (tX_bind S p fun z z' F1 H1 r1 n1 e p => (by subst e; exact ⟨F1, r1, n1.sta, p⟩))) fun z s1 ⟨H1, I1, F1, r1, S1, p⟩ => ?_)
    cases z with
    | true => exact ha.run pins s1 σ H1 Q I1 ⟨F1, r1, S1, p⟩
    | false => exact hb.run pins s1 σ H1 Q I1 ⟨F1, r1, S1, p⟩⟩
end
/-- the law's promise from what it answers -/
theorem end_of {G : Gm} {B : Beh} {H : Hp} {a : Addr} {ns : List Int} {r : Ev} (hO : Only H) (hS : SqL G.K H a (ns.map V.int)) (h : B [.kl (ns.map D.int)] = .ok (.bl true) r) : spB G 1 [] B [.ref a] H (fun v _ => v = .bl true) fun _ _ _ => False := by
  refine ⟨rfl, H, [.kl (ns.map D.int)], Sta.args .rfl' (fun b C dx fs f e => ?_) (.cons (.kl hS (RepL.ofInts ns)) .nil), ?_⟩
  · rcases hO b with q | ⟨o, xs, q⟩
    · rw [q] at e
      cases e
    · rw [q] at e
      cases e
  · rw [h]
    intro v F' H' n rd
    cases rd
    rfl
end Z

/-! What the plain operations answer. -/
namespace Z
open PySem PySem.Spec PyProof.Rows L2

@[simp] theorem pEq_int (i j : Int) : pEq (.int i) (.int j) = some (.bl (decide (i = j))) := by
  unfold pEq pEqB toP SeqAt.shaped
  simp [PyData.canLay0, PyData.depth, PyData.eqv]
  by_cases h : i = j <;> simp [h]
@[simp] theorem pNe_int (i j : Int) : pNe (.int i) (.int j) = some (.bl (!decide (i = j))) := by
  unfold pNe pEqB toP SeqAt.shaped
  simp [PyData.canLay0, PyData.depth, PyData.eqv]
  by_cases h : i = j <;> simp [h]
theorem pEq_str {a b : Str} (ha : PyData.strOk a = true) (hb : PyData.strOk b = true) : pEq (.str a) (.str b) = some (.bl (decide (a = b))) := by
  unfold pEq pEqB toP SeqAt.shaped
  simp [PyData.canLay0, PyData.depth, PyData.eqv, ha, hb]
  by_cases h : a = b <;> simp [h]
theorem pNe_str {a b : Str} (ha : PyData.strOk a = true) (hb : PyData.strOk b = true) : pNe (.str a) (.str b) = some (.bl (!decide (a = b))) := by
  unfold pNe pEqB toP SeqAt.shaped
  simp [PyData.canLay0, PyData.depth, PyData.eqv, ha, hb]
  by_cases h : a = b <;> simp [h]
theorem toPs_ints (ns : List Int) : toPs (ns.map D.int) = some (ns.map PyData.int) := by
  induction ns with
  | nil => rfl
  | cons n ns ih => simp [toPs, toP, ih]
theorem canLay_ints (ns : List Int) : PyData.canLayAll0 (ns.map PyData.int) = true := by
  induction ns with
  | nil => rfl
  | cons n ns ih => simp [PyData.canLayAll0, PyData.canLay0, ih]
theorem depth_ints (ns : List Int) : PyData.depthAll (ns.map PyData.int) = 0 := by
  induction ns with
  | nil => rfl
  | cons n ns ih => simp [PyData.depthAll, PyData.depth, ih]
theorem pNe_nil (ns : List Int) : pNe (.lst (ns.map .int)) (.lst []) = some (.bl (!ns.isEmpty)) := by
  unfold pNe pEqB toP SeqAt.shaped
  rw [toPs_ints]
  cases ns with
  | nil => simp [PyData.canLay0, PyData.canLayAll0, PyData.depth, PyData.depthAll, PyData.eqv, PyData.eqvAll, toPs]
  | cons n ns => simp [PyData.canLay0, PyData.canLayAll0, canLay_ints, PyData.depth, PyData.depthAll, depth_ints, PyData.eqv, PyData.eqvAll, toPs]
@[simp] theorem pAdd_int (i j : Int) : pAdd (.int i) (.int j) = some (.int (i + j)) := rfl
@[simp] theorem pSub_int (i j : Int) : pSub (.int i) (.int j) = some (.int (i - j)) := rfl
@[simp] theorem pNeg_int (i : Int) : pNeg (.int i) = some (.int (-i)) := rfl
@[simp] theorem pLt_int (i j : Int) : pLt (.int i) (.int j) = some (.bl (decide (i < j))) := rfl
@[simp] theorem pLe_int (i j : Int) : pLe (.int i) (.int j) = some (.bl (decide (i ≤ j))) := rfl
@[simp] theorem pGt_int (i j : Int) : pGt (.int i) (.int j) = some (.bl (decide (j < i))) := rfl
@[simp] theorem pGe_int (i j : Int) : pGe (.int i) (.int j) = some (.bl (decide (j ≤ i))) := rfl
@[simp] theorem pInt_int (i : Int) : pInt [.int i] = some (.int i) := rfl
@[simp] theorem pInt_bl (b : Bool) : pInt [.bl b] = some (.int (if b then 1 else 0)) := rfl
@[simp] theorem pBool_int (i : Int) : pBool [.int i] = some (.bl (i != 0)) := rfl
@[simp] theorem pAbs_int (i : Int) : pAbs [.int i] = some (.int (if i < 0 then -i else i)) := rfl
@[simp] theorem pGcd_int (a b : Int) : pGcd [.int a, .int b] = some (.int ((Int.gcd a b : Nat) : Int)) := rfl
theorem wd_small {n k : Nat} {i : Int} (h : i.natAbs < 2 ^ k) (h0 : 0 < k) (hk : k ≤ n) : wd n i = true := wd_of h h0 hk
theorem mulB_left {i j : Int} (h : i.natAbs < 2 ^ 60) : mulB i j = true := by
  unfold mulB
  rw [wd_of h (by omega) (Nat.le_refl _)]
  rfl
theorem mulB_right {i j : Int} (h : j.natAbs < 2 ^ 60) : mulB i j = true := by
  unfold mulB
  rw [wd_of (n := 60) h (by omega) (Nat.le_refl _)]
  simp
theorem mulB_both {i j : Int} {a b : Nat} (h : i.natAbs < 2 ^ a) (h' : j.natAbs < 2 ^ b) (ha : 0 < a) (hb : 0 < b) (ha' : a ≤ 400000) (hb' : b ≤ 400000) : mulB i j = true := by
  unfold mulB
  rw [wd_of (n := 400000) h ha ha', wd_of (n := 400000) h' hb hb']
  simp
theorem pMul_int {i j : Int} (h : mulB i j = true) : pMul (.int i) (.int j) = some (.int (i * j)) := by
  unfold pMul
  exact if_pos h
theorem pDiv_int {i j : Int} (h : wd 8000 j = true) (h0 : j ≠ 0) : pDiv (.int i) (.int j) = some (.int (i.fdiv j)) := by
  unfold pDiv
  exact if_pos (by simp [h, h0])
theorem pMod_int {i j : Int} (h0 : j ≠ 0) : pMod (.int i) (.int j) = some (.int (i.fmod j)) := by
  unfold pMod
  exact if_neg h0
theorem pPow_int {i j : Int} (h0 : 0 ≤ j) (h1 : j ≤ 1000000) (h : i.natAbs < 2 ^ 64) : pPow (.int i) (.int j) = some (.int (i ^ j.toNat)) := by
  unfold pPow
  exact if_pos ⟨h0, h1, h⟩
theorem pLen_lst {l : List D} : pLen [.lst l] = some (.int (l.length : Nat)) := rfl
theorem pLen_tup {l : List D} : pLen [.tup l] = some (.int (l.length : Nat)) := rfl
theorem pLen_kl {l : List D} : pLen [.kl l] = some (.int (l.length : Nat)) := rfl
theorem pSum_lst (ns : List Int) : pSum [.lst (ns.map D.int)] = some (.int ns.sum) := by
  unfold pSum lisOf
  simp [toInts_map]
theorem pAll_lst (bs : List Bool) : pAll [.lst (bs.map D.bl)] = some (.bl (bs.all id)) := by
  unfold pAll lisOf
  simp [toBls_map]
theorem pTup_ok {l : List D} (h : l.length ≤ 64) : pTup l = some (.tup l) := by
  unfold pTup okLen big
  rw [if_pos (by simp; omega)]
theorem pLst_ok {l : List D} (h : l.length ≤ 64) : pLst l = some (.lst l) := by
  unfold pLst okLen big
  rw [if_pos (by simp; omega)]
theorem keepE_no (n : Nat) (r : Ev) : keepE [] n r = List.replicate n none := by
  unfold keepE
  apply List.ext_getElem
  · simp
  · intro i h1 h2
    simp
theorem keepE_at (n : Nat) (r : Ev) : keepE [0] (n + 1) r = r.getD 0 none :: List.replicate n none := by
  unfold keepE
  apply List.ext_getElem
  · simp
  · intro i h1 h2
    cases i with
    | zero => simp
    | succ i => simp
@[simp] theorem keepE1 (r : Ev) : keepE [] 1 r = [none] := keepE_no 1 r
@[simp] theorem keepE2 (r : Ev) : keepE [] 2 r = [none, none] := keepE_no 2 r
@[simp] theorem keepE3 (r : Ev) : keepE [] 3 r = [none, none, none] := keepE_no 3 r
@[simp] theorem keepE4 (r : Ev) : keepE [] 4 r = [none, none, none, none] := keepE_no 4 r
@[simp] theorem keepE5 (r : Ev) : keepE [] 5 r = [none, none, none, none, none] := keepE_no 5 r
@[simp] theorem keepE1' (r : Ev) : keepE [0] 1 r = [r.getD 0 none] := keepE_at 0 r
@[simp] theorem keepE2' (r : Ev) : keepE [0] 2 r = [r.getD 0 none, none] := keepE_at 1 r
@[simp] theorem keepE3' (r : Ev) : keepE [0] 3 r = [r.getD 0 none, none, none] := keepE_at 2 r
@[simp] theorem keepE4' (r : Ev) : keepE [0] 4 r = [r.getD 0 none, none, none, none] := keepE_at 3 r
@[simp] theorem keepE5' (r : Ev) : keepE [0] 5 r = [r.getD 0 none, none, none, none, none] := keepE_at 4 r
@[simp] theorem keepE6' (r : Ev) : keepE [0] 6 r = [r.getD 0 none, none, none, none, none, none] := keepE_at 5 r
end Z

/-! append on own lists, freezing, a list of one's own in a pair, [::-1], max of a list. -/
namespace Z
open PySem PySem.Spec PyProof.Rows L2
@[simp] def sApp (i : Nat) (f : M D) : M Fl := fun r => match r[i]? with
  | some (some (.lst _)) => (f r).bind fun d r1 => match r1[i]? with
    | some (some (.lst l)) => if l.length < sizeLine then .ok .nx (r1.set i (some (.lst (l ++ [d])))) else .no
    | _ => .no
  | _ => .no
/-- x, y = [], e: the list is this code's own -/
@[simp] def sParF (i j : Nat) (f : M D) : M Fl := fun r => (f r).bind fun d r1 => if i < r1.length then .ok .nx ((r1.set i (some (.lst []))).set j (some d)) else .no
/-- x, y = e, []: the list is this code's own -/
@[simp] def sParG (i j : Nat) (f : M D) : M Fl := fun r => (f r).bind fun d r1 => if j < r1.length then .ok .nx ((r1.set j (some (.lst []))).set i (some d)) else .no
def revM : D → D → Option D
  | .lst l, .int n => if n = -1 then some (.lst l.reverse) else none
  | _, _ => none
@[simp] theorem revM_ok (l : List D) : revM (.lst l) (.int (-1)) = some (.lst l.reverse) := rfl
@[simp] def eRev (f g : M D) : M D := fun r => (f r).bind fun x r1 => (g r1).bind fun k r2 => liftO (revM x k) r2
def maxI : List Int → Int
  | [] => 0
  | [n] => n
  | n :: m :: l => max n (maxI (m :: l))
def pMax1 : List D → Option D
  | [x] => (lisOf x).bind fun l => (toInts l).bind fun ns => if ns = [] then none else some (.int (maxI ns))
  | _ => none
theorem maxI_is : ∀ {ns : List Int}, ns ≠ [] → maxI ns ∈ ns ∧ ∀ y ∈ ns, y ≤ maxI ns
  | [], h => absurd rfl h
  | [n], _ => by simp [maxI]
  | n :: m :: l, _ => by
    obtain ⟨h1, h2⟩ := maxI_is (ns := m :: l) (by simp)
    rw [maxI]
    refine ⟨?_, fun y hy => ?_⟩
    · by_cases q : n ≤ maxI (m :: l)
      · rw [Int.max_eq_right q]
        exact List.mem_cons_of_mem _ h1
      · rw [Int.max_eq_left (by omega)]
        exact List.mem_cons_self
    · rcases List.mem_cons.mp hy with e | hy
      · rw [e]; exact Int.le_max_left _ _
      · exact Int.le_trans (h2 y hy) (Int.le_max_right _ _)
theorem RepL.snoc {G : Gm} {F : Hp} : ∀ {ds : List D} {vs : List V} {d : D} {v : V}, RepL G F ds vs → Rep G F d v → RepL G F (ds ++ [d]) (vs ++ [v])
  | _, _, _, _, .nil, r => .cons r .nil
  | _, _, _, _, .cons a b, r => .cons a (RepL.snoc b r)
theorem RepL.rev {G : Gm} {F : Hp} : ∀ {ds : List D} {vs : List V}, RepL G F ds vs → RepL G F ds.reverse vs.reverse := by
  intro ds
  induction ds with
  | nil => intro vs h; cases h; exact .nil
  | cons d ds ih =>
    intro vs h
    cases h with
    | cons a b =>
      rw [List.reverse_cons, List.reverse_cons]
      exact (ih b).snoc a
section
variable {G : Gm} {X : Cx} {W : WX} {OX OL vs O O1 O2 O3 : List Nat}
/-- some of the owned are given up first -/
theorem ss_frz {st : List Stmt} {f : M Fl} (h : PSs X st (tS G W OX OL O1 O2 f)) (hs : ∀ i ∈ O1, i ∈ O := by decide) : PSs X st (tS G W OX OL O O2 f) :=
  h.imp fun Dn σ H ⟨F, r, S, p⟩ => by
    obtain ⟨F2, n2, sb⟩ := (Nx.rfl' (OX := OX) S).freeze hs
    exact ⟨F2, r, n2.sta, PstS.after n2 p⟩
theorem s_app {x : Str} {e : Expr} {pos cpos apos px : Pos} {f : M D} (i : Nat) (he : PE X e (tE G W OX O O1 f)) (hO : i ∈ O := by decide) (hi : i ∈ O1 := by decide) (hN : X.N[i]? = some x := by rfl) (hv : Vis X.env.scope x := by first | exact Or.inl rfl | exact Or.inr (Or.inl rfl) | exact Or.inr (Or.inr rfl))
    (hd : (x == ("__debug__" : Str)) = false := by decide) (hcd : (x == ("__classdict__" : Str)) = false := by decide)
    (hbase : attributeBase (.Name x px) "append" X.env (eval (.Name x px) X.env) = eval (.Name x px) X.env := by rfl)
    (hfew : ((backTo cpos (starEach [e] X.env)).all (fun x => !x.1) && (backToKw cpos (keywordEach [] X.env)).all (fun x => x.1.isSome)
      && decide (([e] : List Expr).length + ([] : List Keyword).length + (if ([] : List Keyword).isEmpty then 0 else 1) < 30)) = true := by rfl)
    (hline : (apos.endLine == cpos.line) = true := by rfl) (hs : starEach [e] X.env = (false, eval e X.env) :: starEach [] X.env := by rfl) (hplain : (backTo cpos (starEach [] X.env)).any (·.1) = false := by rfl)
    (hsw : swapsWith (.Call (.Attribute (.Name x px) "append" apos) [e] [] cpos) none pos.line X.env = pure false := by rfl) : PS X (.Expr (.Call (.Attribute (.Name x px) "append" apos) [e] [] cpos) pos) (tS G W OX OL O O1 (sApp i f)) :=
  (ps_expr (pe_bm PySem.F.plainAttrs_list PySem.F.slot_list_append PySem.F.type_list_append mt_append (pe_var hN hv hd hcd) (pa_cons he pa_nil hs) hbase hfew hline hs hplain) hsw).imp fun Dn σ H ⟨F, r, S, p⟩ => by
    obtain ⟨d0, v0, e1, e2, o0⟩ := S.ow i hO
    simp only [sApp, e1] at p
    cases o0 with
    | @lst l0 a xs h hf rr =>
      simp only at p
      refine ⟨_, e2, .inl ⟨rfl, xs, .inl (.inl h)⟩, tS_bind S p fun d v F1 H1 r1 n1 rd p => ?_⟩
      revert p
      split
      · rename_i l e3
        intro p
        obtain ⟨v1, e4, o⟩ := n1.sta.own_at hi e3
        rw [e2] at e4
        cases e4
        cases o with
        | @lst _ _ xs1 h1 hf1 rr1 =>
          split at p
          · rename_i hz
            refine ⟨a, xs1, v, rfl, rfl, h1, by rw [← rr1.length]; exact hz, p _ _ _ (n1.sta.wr hi e2 (.lst upd_same hf1 (RepL.snoc rr1 rd)) (sub_wr n1.sta.sub hf1) (n1.sta.wf.upd rfl))⟩
          · exact p.elim
      · exact fun p => p.elim
    | _ => exact p.elim

theorem s_parF {x y : Str} {e : Expr} {px py pt pos lp : Pos} {kt k2 pt2} {f : M D} (i j : Nat) (he : PE X e (tE G W OX O O1 f)) (hx1 : i ∉ OX := by decide) (hx2 : j ∉ OX := by decide) (hij : i ≠ j := by decide) (hiO : i ∉ O := by decide) (hN : X.N.Nodup := by first | assumption | decide +kernel) (hi : X.N[i]? = some x := by rfl) (hj : X.N[j]? = some y := by rfl)
    (hx : Loc X.env.scope x := by first | exact Or.inl rfl | exact Or.inr rfl) (hy : Loc X.env.scope y := by first | exact Or.inl rfl | exact Or.inr rfl) (hc : X.calm = true := by rfl) (hw : swappedStores [.Tuple [.Name x px, .Name y py] kt pt] (.Tuple [.List [] lp, e] k2 pt2) X.env = pure none := by rfl)
    (hs : swapsWithSole [.Tuple [.Name x px, .Name y py] kt pt] (.Tuple [.List [] lp, e] k2 pt2) pos.line X.env = pure false := by rfl)
    (hf1 : X.fn x = true ∨ X.env.scope.names.lookup x = some .local := by first | exact .inl rfl | exact .inr rfl | assumption) (hf2 : X.fn y = true ∨ X.env.scope.names.lookup y = some .local := by first | exact .inl rfl | exact .inr rfl | assumption)
    (hs1 : starEach [.List [] lp, e] X.env = (false, eval (.List [] lp) X.env) :: starEach [e] X.env := by rfl) (hs2 : starEach [e] X.env = (false, eval e X.env) :: starEach [] X.env := by rfl)
    (hg1 : (assignEach [.Name x px, .Name y py] X.env).map (·.2) = assign (.Name x px) X.env :: (assignEach [.Name y py] X.env).map (·.2) := by rfl) (hg2 : (assignEach [.Name y py] X.env).map (·.2) = assign (.Name y py) X.env :: (assignEach [] X.env).map (·.2) := by rfl)
    (hn : (assignEach [.Name x px, .Name y py] X.env).length = 2 := by rfl) (hst : (assignEach [.Name x px, .Name y py] X.env).findIdx? (·.1) = none := by rfl) (h1 : (assignEach [.Tuple [.Name x px, .Name y py] kt pt] X.env).map (·.2) = [assign (.Tuple [.Name x px, .Name y py] kt pt) X.env] := by rfl) :
    PS X (.Assign [.Tuple [.Name x px, .Name y py] kt pt] (.Tuple [.List [] lp, e] k2 pt2) pos) (tS G W OX OL O ((i :: O1.filter (· != i)).filter (· != j)) (sParF i j f)) :=
  (ps_asg (pe_tup (pa_cons (pe_lst pa_nil) (pa_cons he pa_nil hs2) hs1)) (pg_tup hc (pgs_cons (pg_name hN hi hx hf1) (pgs_cons (pg_name hN hj hy hf2) pgs_nil hg2) hg1) hn hst) hs hw h1).imp fun Dn σ H ⟨F, r, S, p⟩ => by
    refine ⟨by simp [sizeLine], fun L hL => ?_⟩
    obtain ⟨S0, s0, fL⟩ := new_ow (o := .lst []) S hL rfl
    have n0 : Nx G OX O O σ F H σ F (upd H L (.lst [])) r := Nx.of S0 s0 fun _ h => h
    refine ⟨F, r, S0, ?_⟩
    simp only [sParF] at p
    revert p
    cases f r with
    | no => exact fun p => p
    | ex e q => exact fun p c dx F' H' n x => p c dx σ F' H' (n0.trans n) x
    | ok d r1 =>
    intro p v F1 H1 n1 rd
    have p : PstS G W OX OL O ((i :: O1.filter (· != i)).filter (· != j)) σ F H Dn (if i < r1.length then .ok .nx ((r1.set i (some (.lst []))).set j (some d)) else .no) := p
    refine ⟨by simp [sizeLine], fun T hT => ⟨T, _, rfl, .inl (.inl upd_same), rfl, ?_⟩⟩
    refine ⟨_, _, rfl, ?_⟩
    refine ⟨_, _, rfl, ?_⟩
    refine ⟨rfl, ?_⟩
    revert p
    split
    case isFalse => exact fun p => p.elim
    rename_i hlt
    intro p
    have nO : ¬ OwnAt O σ L := fun ⟨k, hk, ek⟩ => by
      obtain ⟨_, _, _, e2, ow⟩ := S.ow k hk
      rw [ek] at e2
      cases e2
      obtain ⟨b, o, eb, hb⟩ := ow.there
      cases eb
      rw [hL] at hb
      cases hb
    have k1 : H1 L = some (.lst []) := n1.stp.kp L _ upd_same nO
    have k2 : F1 L = none := (n1.stp.nf L _ upd_same nO).trans fL
    obtain ⟨S2, s2, fT⟩ := new_ow (o := .tup [.ref L, v]) n1.sta hT rfl
    have hne : L ≠ T := fun z => by rw [z, hT] at k1; cases k1
    have n2 : Nx G OX O O1 σ F H σ F1 (upd H1 T (.tup [.ref L, v])) r1 := (n0.trans n1).trans (Nx.of S2 s2 fun _ h => h)
    have n2' : Nx G OX O1 O1 σ F1 H1 σ F1 (upd H1 T (.tup [.ref L, v])) r1 := Nx.of S2 s2 fun _ h => h
    have rf : RF G O1 σ H F1 (upd H1 T (.tup [.ref L, v])) (.lst []) (.ref L) := ⟨.lst (by rw [upd_ne hne]; exact k1) k2 .nil, fun a ea => by
      cases ea
      refine ⟨hL, fun m => ?_⟩
      rcases n1.pv L m with q | q
      · exact nO q
      · rw [upd_same] at q
        cases q⟩
    have n3 := own_set i n2 rf hlt hx1
    have n4 := nx_set (OX := OX) j n3.sta rd hx2
    have n5 := n3.trans n4
    exact p _ _ _ n5
theorem s_parG {x y : Str} {e : Expr} {px py pt pos lp : Pos} {kt k2 pt2} {f : M D} (i j : Nat) (he : PE X e (tE G W OX O O1 f)) (hx1 : i ∉ OX := by decide) (hx2 : j ∉ OX := by decide) (hij : i ≠ j := by decide) (hN : X.N.Nodup := by first | assumption | decide +kernel) (hi : X.N[i]? = some x := by rfl) (hj : X.N[j]? = some y := by rfl)
    (hx : X.env.scope.names.lookup x = some .local := by rfl) (hy : X.env.scope.names.lookup y = some .local := by rfl) (hc : X.calm = true := by rfl) (hw : swappedStores [.Tuple [.Name x px, .Name y py] kt pt] (.Tuple [e, .List [] lp] k2 pt2) X.env = pure (some [x, y]) := by rfl)
    (hs : swapsWithSole [.Tuple [.Name x px, .Name y py] kt pt] (.Tuple [e, .List [] lp] k2 pt2) pos.line X.env = pure false := by rfl)
    (hs1 : starEach [e, .List [] lp] X.env = (false, eval e X.env) :: starEach [.List [] lp] X.env := by rfl) (hs2 : starEach [.List [] lp] X.env = (false, eval (.List [] lp) X.env) :: starEach [] X.env := by rfl) :
    PS X (.Assign [.Tuple [.Name x px, .Name y py] kt pt] (.Tuple [e, .List [] lp] k2 pt2) pos) (tS G W OX OL O ((j :: O1.filter (· != j)).filter (· != i)) (sParG i j f)) :=
  (ps_par hc hN hi hj hij hx hy (pa_cons he (pa_cons (pe_lst pa_nil) pa_nil hs2) hs1) hw hs).imp fun Dn σ H ⟨F, r, S, p⟩ => by
    refine ⟨F, r, S, ?_⟩
    simp only [sParG] at p
    revert p
    cases f r with
    | no => exact fun p => p
    | ex e q => exact fun p c dx F' H' n x => p c dx σ F' H' n x
    | ok d r1 =>
    intro p v F1 H1 n1 rd
    have p : PstS G W OX OL O ((j :: O1.filter (· != j)).filter (· != i)) σ F H Dn (if j < r1.length then .ok .nx ((r1.set j (some (.lst []))).set i (some d)) else .no) := p
    refine ⟨by simp [sizeLine], fun L hL => ⟨_, _, rfl, ?_⟩⟩
    revert p
    split
    case isFalse => exact fun p => p.elim
    rename_i hlt
    intro p
    obtain ⟨S2, s2, fL⟩ := new_ow (o := .lst []) n1.sta hL rfl
    have n2 : Nx G OX O O1 σ F H σ F1 (upd H1 L (.lst [])) r1 := n1.trans (Nx.of S2 s2 fun _ h => h)
    have rf : RF G O1 σ H F1 (upd H1 L (.lst [])) (.lst []) (.ref L) := ⟨.lst upd_same fL .nil, fun a ea => by
      cases ea
      refine ⟨n1.stp.tr _ hL, fun ⟨k, hk, ek⟩ => ?_⟩
      obtain ⟨_, _, _, e2, ow⟩ := n1.sta.ow k hk
      rw [ek] at e2
      cases e2
      obtain ⟨b, o, eb, hb⟩ := ow.there
      cases eb
      rw [hL] at hb
      cases hb⟩
    have n3 := own_set j n2 rf hlt hx2
    have n4 := nx_set (OX := OX) i n3.sta rd hx1
    have n5 := n3.trans n4
    rw [List.set_comm _ _ hij]
    exact p _ _ _ n5
/-- max of one list of ints -/
theorem e_max1 {x : Expr} {xs : List Expr} {pp pos : Pos} {f : M (List D)} (ha : PA X (x :: xs) (tA G W OX O O1 f)) (hm : X.mg "max" = none := by assumption) (hg : Gl X "max" := by rfl) (hc : X.calm = true := by rfl) (hK : X.K = G.K := by rfl)
    (he : starEach (x :: xs) X.env = (false, eval x X.env) :: starEach xs X.env := by rfl) (hpl : (backTo pos (starEach xs X.env)).any (·.1) = false := by rfl) : PE X (.Call (.Name "max" pp) (x :: xs) [] pos) (tE G W OX O O1 (eN pMax1 f)) :=
  e_cB pMax1 (cr_max hc) (fun σ F H r ds vs d Q S rs e q => by
    unfold pMax1 at e
    split at e
    · obtain ⟨l, e1, e2⟩ := Option.bind_eq_some_iff.mp e
      obtain ⟨ns, e3, e4⟩ := Option.bind_eq_some_iff.mp e2
      split at e4
      · cases e4
      rename_i hne
      cases e4
      cases rs with
      | cons r1 rr =>
        cases rr
        obtain ⟨a, xs, rfl, hq, rl⟩ := lis_of r1 e1
        rw [toInts_eq e3] at rl
        rw [hK]
        refine ⟨a, ns, rfl, by rw [← rl.ints]; exact hq H S.sub, List.length_pos_iff.mpr hne, fun m h1 h2 => ?_⟩
        obtain ⟨g1, g2⟩ := maxI_is hne
        have : m = maxI ns := Int.le_antisymm (g2 m h1) (h2 _ g1)
        subst this
        exact q.ok S .int
    · cases e) ha hm (hg := hg) (he := he) (hpl := hpl)
theorem pick_rev (xs : List Value) : slicePick xs.toArray none none (some (-1)) = xs.reverse.toArray := by
  unfold slicePick sliceRange sliceBounds
  apply congrArg List.toArray
  have e : ∀ (n : Nat), ((if ((n : Int) - 1) > -1 then ((n : Int) - 1 - (-1) - (-1) - 1) / (-(-1)) else 0 : Int)).toNat = n := by
    intro n
    rw [show ((n : Int) - 1 - (-1) - (-1) - 1) = n by omega, show (-(-1) : Int) = 1 by rfl, Int.ediv_one]
    split <;> omega
  simp only [Option.getD_some, show ¬ ((-1 : Int) > 0) by omega, if_false, List.size_toArray, e]
  apply List.ext_getElem?
  intro k
  have key : ∀ (m : Nat), m ≤ xs.length → List.filterMap (fun x => xs[x]?) (List.map (fun (k : Nat) => ((xs.length : Int) - 1 + -1 * (k : Int)).toNat) (List.range m)) = (xs.reverse).take m := by
    intro m
    induction m with
    | zero => simp
    | succ m ih =>
      intro hm
      rw [List.range_succ, List.map_append, List.filterMap_append, ih (by omega), List.take_succ]
      congr 1
      have e2 : ((xs.length : Int) - 1 + -1 * (m : Int)).toNat = xs.length - 1 - m := by omega
      simp only [List.map_cons, List.map_nil, e2]
      rw [List.getElem?_reverse (by omega)]
      have : xs[xs.length - 1 - m]? = some (xs[xs.length - 1 - m]'(by omega)) := List.getElem?_eq_getElem _
      simp [this]
  have z := key xs.length (Nat.le_refl _)
  rw [List.take_of_length_le (by simp)] at z
  rw [← z]
  rw [show (fun x => xs.toArray[x]?) = fun x => xs[x]? from funext fun x => List.getElem?_toArray]
theorem vals_rev2 {xs : List V} : ∀ {us : List Value}, Vals xs us → Vals xs.reverse us.reverse := by
  induction xs with
  | nil => intro us h; cases h; exact .nil
  | cons x xs ih =>
    intro us h
    cases h with
    | cons a b =>
      rw [List.reverse_cons, List.reverse_cons]
      exact (ih b).append (.cons a .nil)
/-- a[::-1], a a list -/
theorem e_rev {e st : Expr} {p2 pos : Pos} {f g : M D} (he : PE X e (tE G W OX O O1 f)) (hst : PE X st (tE G W OX O1 O2 g)) (hK : X.K = G.K := by rfl) (htl : ∀ a b, subscripted (.Slice none none (some st) p2) false a b = operate [a, b] (getItem a b) := by intro _ _; rfl) :
    PE X (.Subscript e (.Slice none none (some st) p2) pos) (tE G W OX O O2 (eRev f g)) := by
  refine ⟨fun pins s σ H Q I ⟨F, r, S, p⟩ => ?_⟩
  refine Subscript_ (thn (he.run pins s σ H (fun x H1 => ∃ d F1 r1, Nx G OX O O1 σ F H σ F1 H1 r1 ∧ Rep G F1 d x ∧ Pst G W OX O1 O2 σ F1 H1 (RD G) Q ((g r1).bind fun k r2 => liftO (revM d k) r2)) I (tX_bind S p fun d v F1 H1 r1 n1 rd p => ⟨d, F1, r1, n1, rd, p⟩)) fun v s1 ⟨x, H1, I1, r1, d, F1, q1, n1, rd, p⟩ => ?_)
  refine wpAny_Slice ?_
  rw [evalPart_none, evalPart_some]
  refine wpAny_pure (wpAny_pure ?_)
  refine thn (hst.run pins s1 σ H1 (fun y H2 => ∃ k F2 r2, Nx G OX O1 O2 σ F1 H1 σ F2 H2 r2 ∧ Rep G F2 k y ∧ Pst G W OX O2 O2 σ F2 H2 (RD G) Q (liftO (revM d k) r2)) I1 (tX_bind n1.sta p fun k y F2 H2 r2 n2 ry p => ⟨k, F2, r2, n2, ry, p⟩)) fun w s2 ⟨y, H2, I2, ry, k, F2, r2, n2, rk, p⟩ => ?_
  obtain ⟨dd, ed, q⟩ := p.lift
  unfold revM at ed
  split at ed
  case h_2 => cases ed
  split at ed
  case isFalse => cases ed
  rename_i hn
  subst hn
  cases ed
  cases rk
  obtain ⟨t, rfl⟩ := ry
  have I4 : Inv X pins σ H2 { s2 with heap := s2.heap.push { cls := .type "slice", data := .fields #[.none, .none, .int (-1) t] } } := I2.kept (t' := s2.toks) fun b ob q => Heap.get?_push_of_some _ q
  have rd := rd.mono n2.stp.fz
  cases rd with
  | @lst _ a xs h rl =>
    obtain rfl : v = Value.ref a := r1
    obtain ⟨o', e', g'⟩ := n2.sta.sub _ _ h
    rw [g'.lst] at e'
    have hx : SqL X.K H2 a xs := .inl (.inl e')
    obtain ⟨its, rv, ht, hz⟩ := I4.list hx
    have hg : wpAny (model X.prog X.w) X.A (getItem (.ref a) (.ref s2.heap.objs.size)) (EP X pins σ Q) X.xe { s2 with heap := s2.heap.push { cls := .type "slice", data := .fields #[.none, .none, .int (-1) t] } } := by
      refine wpAny_getItem_list_slice ht.isList (Heap.IsSliceOf.new ..) .none .none (.int (-1) t) (by decide) ?_ (by rw [List.size_toArray, ← rv.length]; exact hz)
      rw [pick_rev]
      refine ⟨.ref _, _, I4.laid (t' := s2.toks) (o := .lst xs.reverse) (fun b ob q => Heap.get?_push_of_some _ q) (Nat.le_refl _) ?_, rfl, ?_⟩
      · exact ⟨by rw [List.length_reverse]; exact hz, _, 0, vals_rev2 rv, Heap.get?_push_size _ rfl⟩
      · exact q.fz n2.sta (I4.hok.fresh (Nat.le_refl _)) rfl fun F' hF sb' => .lst hF (rl.mono sb').rev
    show wpAny (model X.prog X.w) X.A (subscriptTail e (.Slice none none (some st) p2) (.ref a) (.ref s2.heap.objs.size)) (EP X pins σ Q) X.xe { s2 with heap := s2.heap.push { cls := .type "slice", data := .fields #[.none, .none, .int (-1) t] } }
    exact tail_any (ops := [.ref a, .ref s2.heap.objs.size]) ht.isList.typeIs slot_list_getitem.lookup hg (htl _ _)
end
end Z

/-! == and != of tuples (of tuples ..) whose items have an own ==; either answer. -/
namespace Z
open PySem PySem.SeqAt
open AutoSeq1 (wpAny_loadPart')
open MeetsSeq MeetsSeq2 MeetsSeq3 SeqRoads2
section
variable {prog : Program} {w : World} {A : Around} {E : Value → Shared → Prop} {s : Shared}

theorem loop_eq {R : Result → Shared → Prop} (p1 p2 : Addr) (k1 k2 : Array Value) (m1 m2 : Nat) (u1 u2 : Option Addr) (z1 z2 : Array (Option Value)) (Y : Nat → Shared → Prop) (N : Shared → Prop)
    (lap : ∀ i (g1 : i < k1.size) (g2 : i < k2.size) s', Y i s' → wpAny (model prog w) A.in1 (eqBool k1[i] k2[i]) (fun b s2 => (b = true ∧ Y (i + 1) s2) ∨ (b = false ∧ N s2)) (fun e s' => R (.error e) s') s')
    (end1 : ∀ s', Y (min k1.size k2.size) s' → R (.ok (.ret (.bool (k1.size == k2.size)))) s') (end2 : ∀ s', N s' → R (.ok (.ret (.bool false))) s')
    (a1 : s.heap.get? p1 = some { cls := .type "tuple", dict := u1, data := .seq k1 m1, slots := z1 }) (a2 : s.heap.get? p2 = some { cls := .type "tuple", dict := u2, data := .seq k2 m2, slots := z2 }) (st : Y 0 s) :
    wpAny (model prog w) A.in1 (Builtin.«tuple.__eq__» ⟨[.ref p1, .ref p2], []⟩) (GQ.FinOf prog w A R) (fun e s' => R (.error e) s') s := by
  have j2 := AutoSeq1.sub_tuple_tuple
  have lz : (k1.toList.zip k2.toList).length = min k1.size k2.size := by simp
  have st0 := st
  obtain ⟨hp, g, d, tk, os⟩ := s
  wp_walk using wpAny_loadPart' a1, wpAny_loadPart' a2, wpAny_forIn_list _ (fun more b s' => b.1 = none ∧ ∃ i, more = (k1.toList.zip k2.toList).drop i ∧ i ≤ min k1.size k2.size ∧ Y i s') _
  case turn =>
    rintro ⟨c1, c2⟩ more b s' ⟨_, i, hm, _, hY⟩
    have q : i < (k1.toList.zip k2.toList).length := by
      rcases Nat.lt_or_ge i (k1.toList.zip k2.toList).length with q | q
      · exact q
      · rw [List.drop_of_length_le q] at hm; cases hm
    have q1 : i < k1.size := by omega
    have q2 : i < k2.size := by omega
    rw [List.drop_eq_getElem_cons q] at hm
    injection hm with e1 e2
    have f1 : c1 = k1[i] := by simpa using congrArg Prod.fst e1
    have f2 : c2 = k2[i] := by simpa using congrArg Prod.snd e1
    subst f1 f2
    refine wpAny_bind (wpAny_mono (lap i q1 q2 s' hY) (fun b s2 hb => ?_) fun _ _ x => x)
    rcases hb with ⟨rfl, hb⟩ | ⟨rfl, hb⟩
    · wp_walk
      exact ⟨rfl, i + 1, e2, by omega, hb⟩
    · have hb := end2 _ hb
      wp_walk
      exact hb
  case fin =>
    rintro ⟨b1, b2⟩ s' ⟨hb, i, hm, hi, hY⟩
    simp only at hb
    subst hb
    have q : min k1.size k2.size ≤ i := by
      rcases Nat.lt_or_ge i (k1.toList.zip k2.toList).length with q | q
      · rw [List.drop_eq_getElem_cons q] at hm; cases hm
      · omega
    have ei : i = min k1.size k2.size := by omega
    have hR := end1 s' (ei ▸ hY)
    wp_walk
    simpa [Builtin.Tuple.tupleCompareSizes, bne] using hR
  case h => exact ⟨rfl, 0, rfl, Nat.zero_le _, st0⟩
theorem rc_eq {p1 p2 : Addr} {k1 k2 : Array Value} {Q : Value → Shared → Prop} (hu : A.units < cLine) (Y : Nat → Shared → Prop) (N : Shared → Prop) (t1 : s.heap.IsTuple p1 k1) (t2 : s.heap.IsTuple p2 k2)
    (lap : ∀ i (g1 : i < k1.size) (g2 : i < k2.size) s', Y i s' → wpAny (model prog w) A.in1 (eqBool k1[i] k2[i]) (fun b s2 => (b = true ∧ Y (i + 1) s2) ∨ (b = false ∧ N s2)) E s')
    (end1 : ∀ s', Y (min k1.size k2.size) s' → Q (.bool (k1.size == k2.size)) s') (end2 : ∀ s', N s' → Q (.bool false) s') (st : Y 0 s) : wpAny (model prog w) A (richCompare .Eq (.ref p1) (.ref p2)) Q E s := by
  obtain ⟨⟨c1, u1, _, z1⟩, o1, w1, m1, x1⟩ := id t1
  obtain ⟨⟨c2, u2, _, z2⟩, o2, w2, m2, x2⟩ := id t2
  simp only at w1 x1 w2 x2
  subst w1 x1 w2 x2
  refine wpAny_richCompare_same_room (op := .Eq) ⟨_, o1, rfl⟩ ⟨_, o2, rfl⟩ F.slot_tuple_eq (GQ.call_here F.slot_tuple_eq ⟨_, o1, rfl⟩ F.entry_tuple_eq (F.args_tuple_eq_2 _ _) ?_) hu
  exact loop_eq (R := wants (fun v s' => v ≠ .notImplemented ∧ Q v s') E) p1 p2 k1 k2 m1 m2 u1 u2 z1 z2 Y N lap (fun s' q => ⟨(fun x => nomatch x), end1 s' q⟩) (fun s' q => ⟨(fun x => nomatch x), end2 s' q⟩) o1 o2 st

theorem loop_ne {R : Result → Shared → Prop} (p1 p2 : Addr) (k1 k2 : Array Value) (m1 m2 : Nat) (u1 u2 : Option Addr) (z1 z2 : Array (Option Value)) (Y : Nat → Shared → Prop) (N : Shared → Prop)
    (lap : ∀ i (g1 : i < k1.size) (g2 : i < k2.size) s', Y i s' → wpAny (model prog w) A.in1 (eqBool k1[i] k2[i]) (fun b s2 => (b = true ∧ Y (i + 1) s2) ∨ (b = false ∧ N s2)) (fun e s' => R (.error e) s') s')
    (end1 : ∀ s', Y (min k1.size k2.size) s' → R (.ok (.ret (.bool (!(k1.size == k2.size))))) s') (end2 : ∀ s', N s' → R (.ok (.ret (.bool true))) s')
    (a1 : s.heap.get? p1 = some { cls := .type "tuple", dict := u1, data := .seq k1 m1, slots := z1 }) (a2 : s.heap.get? p2 = some { cls := .type "tuple", dict := u2, data := .seq k2 m2, slots := z2 }) (st : Y 0 s) :
    wpAny (model prog w) A.in1 (Builtin.«tuple.__ne__» ⟨[.ref p1, .ref p2], []⟩) (GQ.FinOf prog w A R) (fun e s' => R (.error e) s') s := by
  have j2 := AutoSeq1.sub_tuple_tuple
  have lz : (k1.toList.zip k2.toList).length = min k1.size k2.size := by simp
  have st0 := st
  obtain ⟨hp, g, d, tk, os⟩ := s
  wp_walk using wpAny_loadPart' a1, wpAny_loadPart' a2, wpAny_forIn_list _ (fun more b s' => b.1 = none ∧ ∃ i, more = (k1.toList.zip k2.toList).drop i ∧ i ≤ min k1.size k2.size ∧ Y i s') _
  case turn =>
    rintro ⟨c1, c2⟩ more b s' ⟨_, i, hm, _, hY⟩
    have q : i < (k1.toList.zip k2.toList).length := by
      rcases Nat.lt_or_ge i (k1.toList.zip k2.toList).length with q | q
      · exact q
      · rw [List.drop_of_length_le q] at hm; cases hm
    have q1 : i < k1.size := by omega
    have q2 : i < k2.size := by omega
    rw [List.drop_eq_getElem_cons q] at hm
    injection hm with e1 e2
    have f1 : c1 = k1[i] := by simpa using congrArg Prod.fst e1
    have f2 : c2 = k2[i] := by simpa using congrArg Prod.snd e1
    subst f1 f2
    refine wpAny_bind (wpAny_mono (lap i q1 q2 s' hY) (fun b s2 hb => ?_) fun _ _ x => x)
    rcases hb with ⟨rfl, hb⟩ | ⟨rfl, hb⟩
    · wp_walk
      exact ⟨rfl, i + 1, e2, by omega, hb⟩
    · have hb := end2 _ hb
      wp_walk
      exact hb
  case fin =>
    rintro ⟨b1, b2⟩ s' ⟨hb, i, hm, hi, hY⟩
    simp only at hb
    subst hb
    have q : min k1.size k2.size ≤ i := by
      rcases Nat.lt_or_ge i (k1.toList.zip k2.toList).length with q | q
      · rw [List.drop_eq_getElem_cons q] at hm; cases hm
      · omega
    have ei : i = min k1.size k2.size := by omega
    have hR := end1 s' (ei ▸ hY)
    wp_walk
    simpa [Builtin.Tuple.tupleCompareSizes, bne] using hR
  case h => exact ⟨rfl, 0, rfl, Nat.zero_le _, st0⟩
theorem rc_ne {p1 p2 : Addr} {k1 k2 : Array Value} {Q : Value → Shared → Prop} (hu : A.units < cLine) (Y : Nat → Shared → Prop) (N : Shared → Prop) (t1 : s.heap.IsTuple p1 k1) (t2 : s.heap.IsTuple p2 k2)
    (lap : ∀ i (g1 : i < k1.size) (g2 : i < k2.size) s', Y i s' → wpAny (model prog w) A.in1 (eqBool k1[i] k2[i]) (fun b s2 => (b = true ∧ Y (i + 1) s2) ∨ (b = false ∧ N s2)) E s')
    (end1 : ∀ s', Y (min k1.size k2.size) s' → Q (.bool (!(k1.size == k2.size))) s') (end2 : ∀ s', N s' → Q (.bool true) s') (st : Y 0 s) : wpAny (model prog w) A (richCompare .NotEq (.ref p1) (.ref p2)) Q E s := by
  obtain ⟨⟨c1, u1, _, z1⟩, o1, w1, m1, x1⟩ := id t1
  obtain ⟨⟨c2, u2, _, z2⟩, o2, w2, m2, x2⟩ := id t2
  simp only at w1 x1 w2 x2
  subst w1 x1 w2 x2
  refine wpAny_richCompare_same_room (op := .NotEq) ⟨_, o1, rfl⟩ ⟨_, o2, rfl⟩ F.slot_tuple_ne (GQ.call_here F.slot_tuple_ne ⟨_, o1, rfl⟩ F.entry_tuple_ne (F.args_tuple_ne_2 _ _) ?_) hu
  exact loop_ne (R := wants (fun v s' => v ≠ .notImplemented ∧ Q v s') E) p1 p2 k1 k2 m1 m2 u1 u2 z1 z2 Y N lap (fun s' q => ⟨(fun x => nomatch x), end1 s' q⟩) (fun s' q => ⟨(fun x => nomatch x), end2 s' q⟩) o1 o2 st

end
end Z
namespace Z
open PySem PySem.Spec PyProof.Rows L2
def neI : Option D → Option D → Bool
  | some (.int a), some (.int b) => decide (a ≠ b)
  | _, _ => false
/-- two instances of one class that differ in one of the first two fields -/
def apt : D → D → Bool
  | .ob c l, .ob d m => decide (c = d) && (neI l[0]? m[0]? || neI l[1]? m[1]?)
  | _, _ => false
def eqL (f : D → D → Option Bool) : List D → List D → Option Bool
  | [], [] => some true
  | x :: l, y :: m => match f x y with
    | some true => eqL f l m
    | some false => some false
    | none => none
  | _, _ => some false
def eqO (o : Option Beh) (x y : D) : Option Bool := match o with
  | some B => (match B [x, y] with
    | .ok (.bl b) _ => if b || apt x y then some b else none
    | _ => none)
  | none => none
/-- == of two items -/
def eqY (tb : List (Nat × Beh)) (ts : List String) (cs : List Nat) : Nat → D → D → Option Bool
  | _, .ob c l, y => if rk ts cs y then eqO (tb.lookup c) (.ob c l) y else none
  | n + 1, .tup l, .tup m => eqL (eqY tb ts cs n) l m
  | _, _, _ => none
def oEY (n : Nat) (tb : List (Nat × Beh)) (ts : List String) (cs : List Nat) (x y : D) (r : Ev) : Out D := match x, y with
  | .tup l, .tup m => (match eqL (eqY tb ts cs n) l m with
    | some b => .ok (.bl b) r
    | none => .no)
  | _, _ => .no
def oNY (n : Nat) (tb : List (Nat × Beh)) (ts : List String) (cs : List Nat) (x y : D) (r : Ev) : Out D := match x, y with
  | .tup l, .tup m => (match eqL (eqY tb ts cs n) l m with
    | some b => .ok (.bl (!b)) r
    | none => .no)
  | _, _ => .no
theorem relV_int {a b : Int} {u : Value} (h : RelV (.int a) u) (h' : RelV (.int b) u) : a = b := by
  obtain ⟨t, e⟩ := h
  obtain ⟨t', e'⟩ := h'
  rw [e] at e'
  injection e'
section
variable {G : Gm} {X : Cx} {W : WX} {OX OL vs O O1 O2 O3 : List Nat}
theorem RepL.neI {F : Hp} {l m : List D} {xs ys : List V} {i : Nat} (r : RepL G F l xs) (r' : RepL G F m ys) (e : neI l[i]? m[i]? = true) : ∃ a b, xs[i]? = some (.int a) ∧ ys[i]? = some (.int b) ∧ a ≠ b := by
  unfold Z.neI at e
  split at e
  · rename_i a b e1 e2
    obtain ⟨v, e3, h3⟩ := r.get e1
    obtain ⟨v', e4, h4⟩ := r'.get e2
    cases h3
    cases h4
    exact ⟨a, b, e3, e4, of_decide_eq_true e⟩
  · cases e
theorem zip_at {lay : List Str} {xs : List V} {more : List (Str × V)} {i : Nat} {v : V} (hl : xs.length ≤ lay.length) (e : xs[i]? = some v) : ((lay.zip xs ++ more)[i]?).map (·.2) = some v := by
  have hi : i < xs.length := (List.getElem?_eq_some_iff.mp e).1
  have hj : i < lay.length := by omega
  have q : (lay.zip xs)[i]? = some (lay[i], v) := List.getElem?_zip_eq_some.mpr ⟨List.getElem?_eq_getElem hj, e⟩
  rw [List.getElem?_append_left (by rw [List.length_zip]; omega), q]
  rfl
theorem apt_ne {F : Hp} {x y : D} {v : V} (h : apt x y = true) (rx : Rep G F x v) (ry : Rep G F y v) : False := by
  unfold apt at h
  split at h
  · rename_i c l d m
    rw [Bool.and_eq_true, Bool.or_eq_true] at h
    obtain ⟨h1, h2⟩ := h
    have h1 := of_decide_eq_true h1
    subst h1
    cases rx with
    | @ob _ _ a dx xs more h hl r =>
      cases ry with
      | @ob _ _ _ dx2 xs2 more2 h' hl' r' =>
        rw [h] at h'
        injection h' with h'
        injection h' with _ _ h'
        have go : ∀ i, Z.neI l[i]? m[i]? = true → False := fun i q => by
          obtain ⟨a, b, e1, e2, ne⟩ := r.neI r' q
          have z1 := zip_at (more := more) hl e1
          have z2 := zip_at (more := more2) hl' e2
          rw [h', z2] at z1
          injection z1 with z1
          injection z1 with z1
          exact ne z1.symm
        rcases h2 with h2 | h2
        · exact go 0 h2
        · exact go 1 h2
  · cases h
theorem relV_ref {v : V} {a : Addr} (h : RelV v (.ref a)) : v = .ref a := by
  cases v <;> simp [L2.RelV] at h
  · rw [h]
theorem eqL_ne {pins : List (Addr × Obj)} {σ : L2.St} {F H : Hp} {s : Shared} {f : D → D → Option Bool} (I : Inv X pins σ H s) (hf : ∀ x y vx vy u, f x y = some false → Rep G F x vx → Rep G F y vy → RelV vx u → RelV vy u → False) :
    ∀ {l m : List D} {xs : List V}, eqL f l m = some false → RepL G F l xs → RepL G F m xs → (∀ x ∈ xs, ∃ u, RelV x u) → False
  | [], [], _, e, _, _, _ => by cases e
  | x :: l, y :: m, _, e, .cons a b, .cons c d, hr => by
    obtain ⟨u, hu⟩ := hr _ List.mem_cons_self
    rw [eqL] at e
    split at e
    · exact eqL_ne I hf e b d fun x m => hr x (List.mem_cons_of_mem _ m)
    · rename_i e1
      exact hf x y _ _ u e1 a c hu hu
    · cases e
  | [], _ :: _, _, _, a, b, _ => by cases a; cases b
  | _ :: _, [], _, _, a, b, _ => by cases b; cases a
theorem vals_some : ∀ {xs : List V} {us : List Value}, Vals xs us → ∀ x ∈ xs, ∃ u, RelV x u
  | _, _, .nil, _, m => nomatch m
  | _, _, .cons r t, x, m => by
    rcases List.mem_cons.mp m with e | m
    · rw [e]; exact ⟨_, r⟩
    · exact vals_some t x m
theorem eqY_ne {pins : List (Addr × Obj)} {σ : L2.St} {F H : Hp} {s : Shared} {tb : List (Nat × Beh)} {ts : List String} {cs : List Nat} (I : Inv X pins σ H s) (sb : Sub F H) (hK : X.K = G.K) :
    ∀ (n : Nat) (x y : D) (vx vy : V) (u : Value), eqY tb ts cs n x y = some false → Rep G F x vx → Rep G F y vy → RelV vx u → RelV vy u → False := by
  have leaf : ∀ (c : Nat) (l : List D) (y : D) (vx vy : V) (u : Value) (o : Option Bool), (o = if rk ts cs y then eqO (tb.lookup c) (.ob c l) y else none) → o = some false → Rep G F (.ob c l) vx → Rep G F y vy → RelV vx u → RelV vy u → False := by
    intro c l y vx vy u o eo e rx ry h1 h2
    rw [eo] at e
    split at e
    case isFalse => cases e
    unfold eqO at e
    split at e
    case h_2 => cases e
    split at e
    case h_2 => cases e
    split at e
    case isFalse => cases e
    rename_i b _ _ hb
    cases e
    have hb : apt (.ob c l) y = true := by simpa using hb
    obtain ⟨a, rfl, _⟩ : ∃ a, vx = .ref a ∧ True := by cases rx; exact ⟨_, rfl, trivial⟩
    obtain rfl : u = Value.ref a := h1
    have := relV_ref h2
    subst this
    exact apt_ne hb rx ry
  intro n
  induction n with
  | zero =>
    intro x y vx vy u e rx ry h1 h2
    cases x with
    | ob c l => exact leaf c l y vx vy u _ rfl (by rw [eqY] at e; exact e) rx ry h1 h2
    | _ => unfold eqY at e; cases e
  | succ n ih =>
    intro x y vx vy u e rx ry h1 h2
    cases x with
    | ob c l => exact leaf c l y vx vy u _ rfl (by rw [eqY] at e; exact e) rx ry h1 h2
    | tup l =>
      cases y with
      | tup m =>
        rw [eqY] at e
        cases rx with
        | @tup _ a xs q1 r1 =>
          obtain rfl : u = Value.ref a := h1
          have := relV_ref h2
          subst this
          cases ry with
          | @tup _ _ ys q2 r2 =>
            have s1 : SqT X.K H a xs := by rw [hK]; exact sb.sqT q1
            have s2 : SqT X.K H a ys := by rw [hK]; exact sb.sqT q2
            have := I.tuple_inj s1 s2
            subst this
            obtain ⟨its, rv, _, _⟩ := I.tuple s1
            exact eqL_ne I ih e r1 r2 (vals_some rv)
      | _ => unfold eqY at e; cases e
    | _ => unfold eqY at e; cases e
theorem eqL_turn {f : D → D → Option Bool} : ∀ {l m : List D} {b : Bool} {i : Nat}, eqL f l m = some b → (∀ j, j < i → ∀ x y, l[j]? = some x → m[j]? = some y → f x y = some true) → ∀ x y, l[i]? = some x → m[i]? = some y → f x y = some true ∨ (f x y = some false ∧ b = false)
  | [], _, _, _, _, _, _, _, e, _ => by simp at e
  | _ :: _, [], _, _, _, _, _, _, _, e => by simp at e
  | x :: l, y :: m, b, 0, e, _, x', y', e1, e2 => by
    simp at e1 e2
    subst e1 e2
    rw [eqL] at e
    split at e
    · rename_i q; exact .inl q
    · rename_i q; injection e with e; exact .inr ⟨q, e.symm⟩
    · cases e
  | x :: l, y :: m, b, i + 1, e, hj, x', y', e1, e2 => by
    have h0 := hj 0 (by omega) x y rfl rfl
    rw [eqL, h0] at e
    exact eqL_turn e (fun (j : Nat) (hlt : j < i) (x'' y'' : D) (g1 : l[j]? = some x'') (g2 : m[j]? = some y'') => hj (j + 1) (by omega) x'' y'' (by simpa using g1) (by simpa using g2)) x' y' (by simpa using e1) (by simpa using e2)
theorem eqL_end {f : D → D → Option Bool} : ∀ {l m : List D} {b : Bool}, eqL f l m = some b → (∀ (j : Nat) (x y : D), l[j]? = some x → m[j]? = some y → f x y = some true) → b = (l.length == m.length)
  | [], [], _, e, _ => by injection e with e; rw [← e]; rfl
  | [], _ :: _, _, e, _ => by injection e with e; rw [← e]; rfl
  | _ :: _, [], _, e, _ => by injection e with e; rw [← e]; rfl
  | x :: l, y :: m, b, e, hj => by
    rw [eqL, hj 0 x y rfl rfl] at e
    have := eqL_end e (fun (j : Nat) (x' y' : D) (g1 : l[j]? = some x') (g2 : m[j]? = some y') => hj (j + 1) x' y' (by simpa using g1) (by simpa using g2))
    rw [this]
    simp
structure EqTb (G : Gm) (X : Cx) (k : Nat) (tb : List (Nat × Beh)) (ts : List String) (cs : List Nat) : Prop where
  h : ∀ c B, tb.lookup c = some B → (∃ f fd ps, OwnOk G X.prog X.w X.mg X.base k "__eq__" c B f fd ps 2) ∧ CmpOk G ts cs c
/-- what a pair of tuples answers, at any depth -/
theorem laps {pins : List (Addr × Obj)} {σ : L2.St} {F H : Hp} {r : Ev} {A : Around} {f : D → D → Option Bool} {l m : List D} {xs ys : List V} {its its2 : List Value} {b : Bool} (S : Sta G O F H σ r)
    (hf : ∀ (x y : D) (bb : Bool) (F' H' : Hp) (s' : Shared) (vx vy : V) (ux uy : Value), f x y = some bb → Inv X pins σ H' s' → Sta G O F' H' σ r → Rep G F' x vx → Rep G F' y vy → RelV vx ux → RelV vy uy →
      wpAny (model X.prog X.w) A (eqBool ux uy) (fun z s2 => z = bb ∧ ∃ F2 H2, Inv X pins σ H2 s2 ∧ Nx G OX O O σ F' H' σ F2 H2 r) X.xe s')
    (e : eqL f l m = some b) (r1 : RepL G F l xs) (r2 : RepL G F m ys) (rv : Vals xs its) (rv2 : Vals ys its2) (i : Nat) (g1 : i < its.toArray.size) (g2 : i < its2.toArray.size) (s' : Shared)
    (hY : (∀ j, j < i → ∀ x y, l[j]? = some x → m[j]? = some y → f x y = some true) ∧ ∃ F' H', Inv X pins σ H' s' ∧ Nx G OX O O σ F H σ F' H' r) :
    wpAny (model X.prog X.w) A (eqBool its.toArray[i] its2.toArray[i]) (fun z s2 => (z = true ∧ ((∀ j, j < i + 1 → ∀ x y, l[j]? = some x → m[j]? = some y → f x y = some true) ∧ ∃ F' H', Inv X pins σ H' s2 ∧ Nx G OX O O σ F H σ F' H' r)) ∨
      (z = false ∧ (b = false ∧ ∃ F' H', Inv X pins σ H' s2 ∧ Nx G OX O O σ F H σ F' H' r))) X.xe s' := by
  obtain ⟨hj, F', H', I', n⟩ := hY
  have a1 : i < its.length := by simpa using g1
  have a2 : i < its2.length := by simpa using g2
  have n1 : its.length = l.length := by rw [← rv.length, r1.length]
  have n2 : its2.length = m.length := by rw [← rv2.length, r2.length]
  have b1 : its.toArray[i] = its[i] := by simp
  have b2 : its2.toArray[i] = its2[i] := by simp
  rw [b1, b2]
  have el : l[i]? = some (l[i]'(by omega)) := List.getElem?_eq_getElem _
  have em : m[i]? = some (m[i]'(by omega)) := List.getElem?_eq_getElem _
  generalize l[i]'(by omega) = dx at el
  generalize m[i]'(by omega) = dy at em
  obtain ⟨vx, ex, rx⟩ := r1.get el
  obtain ⟨vy, ey, ry⟩ := r2.get em
  obtain ⟨ux, eux, rux⟩ := L2.Vals.get rv ex
  obtain ⟨uy, euy, ruy⟩ := L2.Vals.get rv2 ey
  have q1 : its[i] = ux := by rw [List.getElem?_eq_getElem a1] at eux; exact Option.some.inj eux
  have q2 : its2[i] = uy := by rw [List.getElem?_eq_getElem a2] at euy; exact Option.some.inj euy
  rw [q1, q2]
  rcases eqL_turn e hj dx dy el em with t | ⟨t, tb⟩
  · refine wpAny_mono (hf dx dy true F' H' s' vx vy ux uy t I' n.sta (rx.mono n.stp.fz) (ry.mono n.stp.fz) rux ruy) (fun z s2 hz => .inl ⟨hz.1, fun j hlt x y h1 h2 => ?_, hz.2.imp fun F2 q => q.imp fun H2 q => ⟨q.1, n.trans q.2⟩⟩) fun _ _ x => x
    by_cases q : j = i
    · subst q
      rw [el] at h1
      rw [em] at h2
      cases h1
      cases h2
      exact t
    · exact hj j (by omega) x y h1 h2
    
  · exact wpAny_mono (hf dx dy false F' H' s' vx vy ux uy t I' n.sta (rx.mono n.stp.fz) (ry.mono n.stp.fz) rux ruy) (fun z s2 hz => .inr ⟨hz.1, tb, hz.2.imp fun F2 q => q.imp fun H2 q => ⟨q.1, n.trans q.2⟩⟩) fun _ _ x => x
theorem eqY_run {k : Nat} {tb : List (Nat × Beh)} {ts : List String} {cs : List Nat} (tk : Takes X W) (ht : EqTb G X k tb ts cs) (hx : ∀ i ∈ OX, i ∈ O) (hK : X.K = G.K) {pins : List (Addr × Obj)} {σ : L2.St} {r : Ev} :
    ∀ (n : Nat) (A : Around), L2.Sub X (k + n) A → ∀ (x y : D) (bb : Bool) (F' H' : Hp) (s' : Shared) (vx vy : V) (ux uy : Value), eqY tb ts cs n x y = some bb → Inv X pins σ H' s' → Sta G O F' H' σ r → Rep G F' x vx → Rep G F' y vy → RelV vx ux → RelV vy uy →
      wpAny (model X.prog X.w) A (eqBool ux uy) (fun z s2 => z = bb ∧ ∃ F2 H2, Inv X pins σ H2 s2 ∧ Nx G OX O O σ F' H' σ F2 H2 r) X.xe s' := by
  have leaf : ∀ (n : Nat) (A : Around), L2.Sub X (k + n) A → ∀ (c : Nat) (fs : List D) (y : D) (bb : Bool) (F' H' : Hp) (s' : Shared) (vx vy : V) (ux uy : Value), eqY tb ts cs n (.ob c fs) y = some bb → Inv X pins σ H' s' → Sta G O F' H' σ r → Rep G F' (.ob c fs) vx → Rep G F' y vy → RelV vx ux → RelV vy uy →
      wpAny (model X.prog X.w) A (eqBool ux uy) (fun z s2 => z = bb ∧ ∃ F2 H2, Inv X pins σ H2 s2 ∧ Nx G OX O O σ F' H' σ F2 H2 r) X.xe s' := by
    intro n A sb c fs y bb F' H' s' vx vy ux uy e I' nx rx ry rux ruy
    have e0 := e
    have e : (if rk ts cs y then eqO (tb.lookup c) (.ob c fs) y else none) = some bb := by cases n <;> (rw [eqY] at e; exact e)
    split at e
    case isFalse => cases e
    rename_i hk
    unfold eqO at e
    split at e
    case h_2 => cases e
    rename_i B eB
    obtain ⟨⟨f, fd, ps, ow⟩, ck⟩ := ht.h c B eB
    split at e
    case h_2 => cases e
    rename_i b q' eo
    split at e
    case isFalse => cases e
    cases e
    have J1 := inst_at I' nx rx
    obtain ⟨a', rfl, _⟩ := J1
    obtain rfl : ux = Value.ref a' := rux
    by_cases same : Value.ref a' = uy
    · cases bb with
      | true =>
        rw [← same]
        exact SeqAt.EqAt.same (.ref a') X.prog X.w X.xe _ ⟨rfl, F', H', I', Nx.rfl' nx⟩
      | false =>
        subst same
        exact (eqY_ne I' nx.sub hK n _ _ _ _ _ e0 rx ry rfl ruy).elim
    · have sb1 : L2.Sub X k A := sb.mono (Nat.le_add_right k n)
      have rc := cmp_at (OX := OX) (W := W) (op := .Eq) (Q := fun z H2 => z = .bl bb ∧ ∃ F2, Nx G OX O O σ F' H' σ F2 H2 r) sb1 tk rfl ow ck hk hx hK I' nx rx ry rfl ruy (by
        rw [eo]
        intro z F2 H2 n2 rz
        cases rz
        exact ⟨rfl, F2, n2⟩)
      unfold eqBool
      refine wpAny_holding ?_
      refine wpAny_ite_split (fun hab => absurd (eq_of_beq hab) same) (fun _ => ?_)
      refine wpAny_bind (wpAny_mono rc (fun z s2 hz => ?_) fun _ _ h => h)
      obtain ⟨z', H2, I2, rz, ez, F2, n2⟩ := hz
      subst ez
      cases (show z = Value.bool bb from rz)
      exact wpAny_truthy_bool ⟨rfl, F2, H2, I2, n2⟩
  intro n
  induction n with
  | zero =>
    intro A sb x y bb F' H' s' vx vy ux uy e
    cases x with
    | ob c fs => exact leaf 0 A sb c fs y bb F' H' s' vx vy ux uy e
    | _ => unfold eqY at e; cases e
  | succ n ih =>
    intro A sb x y bb F' H' s' vx vy ux uy e I' nx rx ry rux ruy
    cases x with
    | ob c fs => exact leaf (n + 1) A sb c fs y bb F' H' s' vx vy ux uy e I' nx rx ry rux ruy
    | tup l =>
      cases y with
      | tup m =>
        have e0 := e
        rw [eqY] at e
        cases rx with
        | @tup _ a xs hq1 r1 =>
          cases ry with
          | @tup _ b ys hq2 r2 =>
            obtain rfl : ux = Value.ref a := rux
            obtain rfl : uy = Value.ref b := ruy
            by_cases same : a = b
            · cases bb with
              | true =>
                rw [← same]
                exact SeqAt.EqAt.same (.ref a) X.prog X.w X.xe _ ⟨rfl, F', H', I', Nx.rfl' nx⟩
              | false =>
                subst same
                exact (eqY_ne I' nx.sub hK (n + 1) _ _ _ _ _ e0 (.tup hq1 r1) (.tup hq2 r2) rfl rfl).elim
            · obtain ⟨its, rv, h1, _⟩ := I'.tuple (by rw [hK]; exact nx.sub.sqT hq1)
              obtain ⟨its2, rv2, h2, _⟩ := I'.tuple (by rw [hK]; exact nx.sub.sqT hq2)
              refine GQ.eqBool_refG same ?_
              have sb' : L2.Sub X (k + n) A.in1 := L2.Sub.in1 sb
              have sz : ∀ l' : List Value, l'.toArray.size = l'.length := fun l' => List.size_toArray ..
              have n1 : its.length = l.length := by rw [← rv.length, r1.length]
              have n2 : its2.length = m.length := by rw [← rv2.length, r2.length]
              refine rc_eq sb.room.units0 _ _ h1 h2 (fun i g1 g2 s2 hY => laps (b := bb) nx (fun x y bb F2 H2 s2 vx vy ux uy t I2 S2 => ih A.in1 sb' x y bb F2 H2 s2 vx vy ux uy t I2 S2) e r1 r2 rv rv2 i g1 g2 s2 hY) (fun s2 q => ?_) (fun s2 q => ?_) ⟨fun j hj => absurd hj (Nat.not_lt_zero j), F', H', I', Nx.rfl' nx⟩
              · obtain ⟨q1, q2⟩ := q
                refine ⟨_, rfl, ?_, q2⟩
                rw [sz, sz, n1, n2, ← eqL_end e fun j x y e1 e2 => q1 j (by
                  have := (List.getElem?_eq_some_iff.mp e1).1
                  have := (List.getElem?_eq_some_iff.mp e2).1
                  rw [sz, sz]
                  omega) x y e1 e2]
              · obtain ⟨q1, q2⟩ := q
                exact ⟨_, rfl, q1.symm, q2⟩
      | _ => unfold eqY at e; cases e
    | _ => unfold eqY at e; cases e
theorem o_eqY {k : Nat} (n : Nat) (tb : List (Nat × Beh)) (ts : List String) (cs : List Nat) (tk : Takes X W) (hr : Room (k + n + 1) X.A)
    (ht : ∀ c B, tb.lookup c = some B → (∃ f fd ps, OwnOk G X.prog X.w X.mg X.base k "__eq__" c B f fd ps 2) ∧ CmpOk G ts cs c) (hx : ∀ i ∈ OX, i ∈ O := by decide) (hK : X.K = G.K := by rfl) : Op2 G X W OX O (compareOp .Eq) (oEY n tb ts cs) :=
  fun pins s σ F H r x y v w u u' Q I S rx ry ru ru' q => by
    unfold oEY at q
    split at q
    case h_2 => exact q.elim
    rename_i l m
    split at q
    case h_2 => exact q.elim
    rename_i bb e
    cases rx with
    | @tup _ a xs hq1 r1 =>
      cases ry with
      | @tup _ b ys hq2 r2 =>
        obtain rfl : u = Value.ref a := ru
        obtain rfl : u' = Value.ref b := ru'
        obtain ⟨its, rv, h1, _⟩ := I.tuple (by rw [hK]; exact S.sub.sqT hq1)
        obtain ⟨its2, rv2, h2, _⟩ := I.tuple (by rw [hK]; exact S.sub.sqT hq2)
        have sz : ∀ l' : List Value, l'.toArray.size = l'.length := fun l' => List.size_toArray ..
        have n1 : its.length = l.length := by rw [← rv.length, r1.length]
        have n2 : its2.length = m.length := by rw [← rv2.length, r2.length]
        have sb' : L2.Sub X (k + n) X.A.in1 := L2.Sub.in1 ⟨hr, rfl⟩
        show wpAny (model X.prog X.w) X.A (richCompare .Eq (.ref a) (.ref b)) (EP X pins σ Q) X.xe s
        refine rc_eq hr.units0 _ _ h1 h2 (fun i g1 g2 s2 hY => laps (b := bb) S (fun x y bb F2 H2 s2 vx vy ux uy t I2 S2 => eqY_run tk ⟨ht⟩ hx hK n X.A.in1 sb' x y bb F2 H2 s2 vx vy ux uy t I2 S2) e r1 r2 rv rv2 i g1 g2 s2 hY) (fun s2 q' => ?_) (fun s2 q' => ?_) ⟨fun j hj => absurd hj (Nat.not_lt_zero j), F, H, I, Nx.rfl' S⟩
        · obtain ⟨q1, F2, H2, I2, m2⟩ := q'
          rw [sz, sz, n1, n2, ← eqL_end e fun j x y e1 e2 => q1 j (by
            have := (List.getElem?_eq_some_iff.mp e1).1
            have := (List.getElem?_eq_some_iff.mp e2).1
            rw [sz, sz]
            omega) x y e1 e2]
          exact ⟨.bl bb, H2, I2, rfl, q (.bl bb) F2 H2 m2 .bl⟩
        · obtain ⟨q1, F2, H2, I2, m2⟩ := q'
          subst q1
          exact ⟨.bl false, H2, I2, rfl, q (.bl false) F2 H2 m2 .bl⟩
theorem o_neY {k : Nat} (n : Nat) (tb : List (Nat × Beh)) (ts : List String) (cs : List Nat) (tk : Takes X W) (hr : Room (k + n + 1) X.A)
    (ht : ∀ c B, tb.lookup c = some B → (∃ f fd ps, OwnOk G X.prog X.w X.mg X.base k "__eq__" c B f fd ps 2) ∧ CmpOk G ts cs c) (hx : ∀ i ∈ OX, i ∈ O := by decide) (hK : X.K = G.K := by rfl) : Op2 G X W OX O (compareOp .NotEq) (oNY n tb ts cs) :=
  fun pins s σ F H r x y v w u u' Q I S rx ry ru ru' q => by
    unfold oNY at q
    split at q
    case h_2 => exact q.elim
    rename_i l m
    split at q
    case h_2 => exact q.elim
    rename_i bb e
    cases rx with
    | @tup _ a xs hq1 r1 =>
      cases ry with
      | @tup _ b ys hq2 r2 =>
        obtain rfl : u = Value.ref a := ru
        obtain rfl : u' = Value.ref b := ru'
        obtain ⟨its, rv, h1, _⟩ := I.tuple (by rw [hK]; exact S.sub.sqT hq1)
        obtain ⟨its2, rv2, h2, _⟩ := I.tuple (by rw [hK]; exact S.sub.sqT hq2)
        have sz : ∀ l' : List Value, l'.toArray.size = l'.length := fun l' => List.size_toArray ..
        have n1 : its.length = l.length := by rw [← rv.length, r1.length]
        have n2 : its2.length = m.length := by rw [← rv2.length, r2.length]
        have sb' : L2.Sub X (k + n) X.A.in1 := L2.Sub.in1 ⟨hr, rfl⟩
        show wpAny (model X.prog X.w) X.A (richCompare .NotEq (.ref a) (.ref b)) (EP X pins σ Q) X.xe s
        refine rc_ne hr.units0 _ _ h1 h2 (fun i g1 g2 s2 hY => laps (b := bb) S (fun x y bb F2 H2 s2 vx vy ux uy t I2 S2 => eqY_run tk ⟨ht⟩ hx hK n X.A.in1 sb' x y bb F2 H2 s2 vx vy ux uy t I2 S2) e r1 r2 rv rv2 i g1 g2 s2 hY) (fun s2 q' => ?_) (fun s2 q' => ?_) ⟨fun j hj => absurd hj (Nat.not_lt_zero j), F, H, I, Nx.rfl' S⟩
        · obtain ⟨q1, F2, H2, I2, m2⟩ := q'
          rw [sz, sz, n1, n2, ← eqL_end e fun j x y e1 e2 => q1 j (by
            have := (List.getElem?_eq_some_iff.mp e1).1
            have := (List.getElem?_eq_some_iff.mp e2).1
            rw [sz, sz]
            omega) x y e1 e2]
          exact ⟨.bl (!bb), H2, I2, rfl, q (.bl (!bb)) F2 H2 m2 .bl⟩
        · obtain ⟨q1, F2, H2, I2, m2⟩ := q'
          subst q1
          exact ⟨.bl true, H2, I2, rfl, q (.bl true) F2 H2 m2 .bl⟩
end
end Z

/-! enumerate of a tuple; o.m(k = v). -/
namespace Z
open PySem PySem.Spec
open AutoSeq1 (wpAny_loadPart')
theorem enu_newT (a : Addr) (ks : Array Value) (n : Nat) (dd : Option Addr) (zl : Array (Option Value)) :
    Meets (Builtin.«enumerate.__new__» ⟨[.type "enumerate", .ref a], []⟩) (fun _ R s => s.heap.get? a = some { cls := .type "tuple", dict := dd, data := .seq ks n, slots := zl } ∧
      R (.ok (.ret (.ref (s.heap.push { cls := .type "tuple_iterator", data := .fields #[.ref a, .int 0 0] }).objs.size)))
        { s with heap := (s.heap.push { cls := .type "tuple_iterator", data := .fields #[.ref a, .int 0 0] }).push { cls := .type "enumerate", data := .fields #[.none, .bool false, .ref s.heap.objs.size, rawInt 0, .none, .none] } }) :=
  .of_wp fun prog w A R s q => by
    obtain ⟨hp, g, d, tk, os⟩ := s; obtain ⟨ha, q⟩ := q
    have hs := sub_enumerate
    have hT : Heap.IsTuple (Shared.heap ⟨hp, g, d, tk, os⟩) a ks := ⟨_, ha, rfl, n, rfl⟩
    wp_walk using wpAny_loadPart' ha
    refine wpAny_stack_any fun st => wpAny_pure ?_
    split
    · rename_i c _ _ _ _ _
      cases (c == Value.type "enumerate")
      · wp_walk using wpAny_loadPart' ha, wpAny_pyIter_tuple hT
        exact ⟨_, rfl, q⟩
      · wp_walk using wpAny_loadPart' ha, wpAny_pyIter_tuple hT
        exact ⟨_, rfl, q⟩
    · wp_walk using wpAny_loadPart' ha, wpAny_pyIter_tuple hT
      exact ⟨_, rfl, q⟩
theorem call_enuT {prog : Program} {w : World} {A : Around} {E : Value → Shared → Prop} {s : Shared} {a : Addr} {ks : Array Value} {Q : Value → Shared → Prop} (hT : s.heap.IsTuple a ks)
    (q : ∀ h', IsEnum h' (s.heap.objs.size + 1) s.heap.objs.size 0 .none → h'.IsTupleIter s.heap.objs.size a 0 → (∀ b o, s.heap.get? b = some o → h'.get? b = some o) → Q (.ref (s.heap.objs.size + 1)) { s with heap := h' }) :
    wpAny (model prog w) A (call (.type "enumerate") [.ref a]) Q E s := by
  obtain ⟨⟨c, dct, dt, sl⟩, ha, hc, n, hd⟩ := hT
  replace hc : c = .type "tuple" := hc
  replace hd : dt = .seq ks n := hd
  subst hc hd
  refine callType_new F.called_enumerate (by decide) (F.typeCall_enumerate_1 _) (F.newCall_enumerate_1 _) (fun obj => F.args_object_init_2 obj _) F.entry_enumerate_new (enu_newT a ks n dct sl) ⟨ha, ?_⟩
  have z : (s.heap.push { cls := .type "tuple_iterator", data := .fields #[.ref a, .int 0 0] }).objs.size = s.heap.objs.size + 1 := Heap.size_push ..
  show _ ∧ _
  rw [z]
  have en : IsEnum ((s.heap.push { cls := .type "tuple_iterator", data := .fields #[.ref a, .int 0 0] }).push { cls := .type "enumerate", data := .fields #[.none, .bool false, .ref s.heap.objs.size, rawInt 0, .none, .none] }) (s.heap.objs.size + 1) s.heap.objs.size 0 .none := by
    have p := Heap.get?_push_size (s.heap.push { cls := .type "tuple_iterator", data := .fields #[.ref a, .int 0 0] }) (o := { cls := .type "enumerate", data := .fields #[.none, .bool false, .ref s.heap.objs.size, rawInt 0, .none, .none] }) rfl
    rw [z] at p
    exact p
  exact ⟨⟨_, en, rfl⟩, q _ en ⟨_, Heap.get?_push_of_some _ (Heap.get?_push_size _ rfl), rfl, rfl⟩ fun b o x => Heap.get?_push_of_some _ (Heap.get?_push_of_some _ x)⟩
end Z
namespace Z
open PySem PySem.Spec PyProof.Rows L2
def IteT (K : PySem.W.Frag) (a : Addr) : It :=
  ⟨fun i H => ∃ (xs : List V) (x : V), SqT K H a xs ∧ xs[i]? = some x, fun i H v H' => ∃ T x, v = .ref T ∧ H T = none ∧ H' = upd H T (.tup [.int (i : Nat), x]) ∧ ∀ xs, SqT K H a xs → xs[i]? = some x, fun i H => ∃ xs : List V, SqT K H a xs ∧ xs.length ≤ i⟩
theorem turn_enuT {P : Program} {w : World} {K : PySem.W.Frag} {elts : List Expr} {kk : Nat} {tpos : Pos} (a e it : Addr) (hn : e ≠ it) (hea : e ≠ a) (hia : a ≠ it) :
    Turn P w K (.Tuple elts kk tpos) (IteT K a) [e, it] e (fun i h => (∃ old, IsEnum h e it ((i : Nat) : Int) old) ∧ h.IsTupleIter it a i) where
  mem := by simp
  obj := fun i h st b hb => by
    obtain ⟨⟨old, he⟩, ⟨o, ho, hc, hd⟩⟩ := st
    have q : b = e ∨ b = it := by simpa using hb
    rcases q with z | z
    · rw [z]; exact ⟨_, he, fun v q => nomatch q⟩
    · rw [z]; exact ⟨o, ho, fun v q => by rw [hd] at q; cases q⟩
  keep := fun i h h' st k => let ⟨⟨old, he⟩, hi⟩ := st; ⟨⟨old, k e (by simp) _ he⟩, hi.at fun o q => k it (by simp) o q⟩
  item := by
    intro X hP hw hK hc i pins s σ H E I hf st hg
    subst hP hw hK
    obtain ⟨⟨old, he⟩, hit⟩ := st
    obtain ⟨xs, x, hq, hx⟩ := hg
    obtain ⟨its, rv, p, hz⟩ := I.tuple hq
    obtain ⟨u, hu, ru⟩ := rv.get hx
    have hel : e < s.heap.objs.size := Heap.lt_size he
    have hil : it < s.heap.objs.size := by obtain ⟨_, q, _⟩ := hit; exact Heap.lt_size q
    have hlt : i < its.toArray.size := by
      have := (List.getElem?_eq_some_iff.mp hu).1
      simpa using this
    refine wpAny_pyNext_enum_itemD (Draws.tuple (show X.A.in1.handled = none from I.ok.hd hc) it a hia its.toArray) he ⟨hit, show s.heap.IsTuple a its.toArray from p⟩ hlt hn (by simp [hn, hea]) fun y h' tk hy ho st' hT hsz hk => ?_
    have ey : y = u := by
      have : its.toArray[i]? = some u := by simpa using hu
      rw [this] at hy
      exact (Option.some.inj hy).symm
    subst ey
    refine ⟨_, rfl, wpAny_letOwnedTupleGo_enum (s := { s with heap := h', toks := tk + 1 }) ho fun h'' he' sb => ?_⟩
    have hT2 : h''.get? s.heap.objs.size = some { cls := .type "tuple", data := .seq #[.int i tk, y] } := (sb.2 _ (Nat.ne_of_gt hel)).trans hT
    have new : ObjOk X.prog X.w (upd H s.heap.objs.size (.tup [.int (i : Nat), x])) h'' s.heap.objs.size (.tup [.int (i : Nat), x]) :=
      ⟨by show 2 ≤ sizeLine; decide, [.int i tk, y], .cons ⟨_, rfl⟩ (.cons ru .nil), ⟨_, hT2, rfl, _, rfl⟩⟩
    have I1 : Inv X pins σ (upd H s.heap.objs.size (.tup [.int (i : Nat), x])) { s with heap := h'', toks := tk + 1 } :=
      I.turnedNew (ch := [e, it]) (fun b ob hb q => (sb.2 b (fun z => hb (by simp [z]))).trans (hk b ob (fun z => hb (by simp [z])) (fun z => hb (by simp [z])) q)) hf (Nat.le_refl _) new
    refine ⟨.ref s.heap.objs.size, _, I1, rfl, ⟨_, x, rfl, I.hok.fresh (Nat.le_refl _), rfl, fun ys hy => by rw [I.tuple_inj hy hq]; exact hx⟩, ⟨⟨y, ?_⟩, st'.1.at fun o q => (sb.2 it (Ne.symm hn)).trans q⟩, fun b hb => ?_⟩
    · rw [show ((i + 1 : Nat) : Int) = (i : Int) + 1 by omega]
      exact he'
    · have hb' : b < s.heap.objs.size := by
        have q : b = e ∨ b = it := by simpa using hb
        rcases q with z | z
        · rw [z]; exact hel
        · rw [z]; exact hil
      rw [upd_ne (Nat.ne_of_lt hb')]
      exact (hf b hb).1
  done := by
    intro X hP hw hK hc i pins s σ H E I hf st hg
    subst hP hw hK
    obtain ⟨⟨old, he⟩, hit⟩ := st
    obtain ⟨xs, hq, hx⟩ := hg
    obtain ⟨its, rv, p, hz⟩ := I.tuple hq
    obtain ⟨f0, f1, f2, f3, f4, f5⟩ := hf it (by simp)
    have hl := rv.length
    have hT : s.TypeIs (.ref e) "enumerate" := ⟨_, he, rfl⟩
    have nx : its.toArray[i]? = none := by simp; omega
    have ne : ∀ h', Heap.ExtBut it s.heap h' → Inv X pins σ H { s with heap := h' } := fun h' eb => I.turned (t' := s.toks) (fun b o hb q => eb b o hb q) f0 f1 f3 f4 f5
    unfold pyNext
    refine wpAny_bind (wpAny_attempt (wpAny_callSpecial?_slot (name := Str.ofString "__next__") hT F.slot_enumerate_next (wpAny_call_entry F.slot_enumerate_next hT F.entry_enumerate_next ?_ (F.args_enumerate_next_1 _))))
    show wpAny _ _ (field (.ref e) 2 >>= _) _ _ _
    refine wpAny_bind (wpAny_field he rfl (x := .ref it) rfl ?_)
    refine wpAny_bind (wpAny_nextOf_tuple_end (show X.A.in1.handled = none from I.ok.hd hc) hit (show s.heap.IsTuple a its.toArray from p) nx fun h' x eb hx' => ?_)
    obtain ⟨o, ho, hc'⟩ := hx'
    refine wpAny_bind (wpAny_isInstance (T := "StopIteration") (b := true) ⟨o, ho, hc'⟩ isSubtype_stop ?_)
    exact wpAny_pure ⟨rfl, ne h' eb⟩
  self := fun A i s Q E st h => let ⟨⟨_, he⟩, _⟩ := st; wpAny_pyIter_enum he h
def iEnumT (K : PySem.W.Frag) (ta : TA) : TI := fun σ H R => ta σ H fun vs H1 => ∃ a xs, vs = [.ref a] ∧ SqT K H1 a xs ∧ R (IteT K a) H1
theorem pi_enumT {X : Cx} {e : Expr} {ta : TA} {p pos tpos : Pos} {elts : List Expr} {kk : Nat} (hg : Gl X "enumerate") (hm : X.mg "enumerate" = none) (ha : PA X [e] ta) (hs : starEach [e] X.env = [(false, eval e X.env)] := by rfl) :
    PI X (.Tuple elts kk tpos) (.Call (.Name "enumerate" p) [e] [] pos) (iEnumT X.K ta) := by
  refine ⟨fun pins s σ H R I h => ?_⟩
  refine Call_ (ld_blt I hg hm boot_enumerate (PyProof.Rows.callWith_type1 (thn (ha.run pos pins s σ H _ I h) fun us s1 ⟨vs, H1, I1, r1, q1⟩ => ?_) hs rfl))
  obtain ⟨a, xs, ex, hq, q⟩ := q1
  subst ex
  cases r1 with
  | cons r rr =>
    cases rr
    cases r
    obtain ⟨its, rv, p', hz⟩ := I1.tuple hq
    have hal : a < s1.heap.objs.size := by obtain ⟨_, q, _⟩ := p'; exact Heap.lt_size q
    refine call_enuT (show s1.heap.IsTuple a its.toArray from p') fun h' he hit hk => wpAny_pyIter_enum he ?_
    have I2 : Inv X pins σ H1 { s1 with heap := h' } := I1.kept (t' := s1.toks) hk
    refine ⟨s1.heap.objs.size + 1, [s1.heap.objs.size + 1, s1.heap.objs.size], _, _, H1, rfl, I2, turn_enuT a (s1.heap.objs.size + 1) s1.heap.objs.size (Nat.succ_ne_self _) (fun z => Nat.lt_irrefl _ (Nat.lt_of_lt_of_le hal (by rw [← z]; exact Nat.le_add_right _ _))) (fun z => Nat.lt_irrefl _ (by rw [z] at hal; exact hal)), ⟨⟨.none, he⟩, hit⟩, fun b hb => ?_, q⟩
    have hle : s1.heap.objs.size ≤ b := by
      have z : b = s1.heap.objs.size + 1 ∨ b = s1.heap.objs.size := by simpa using hb
      rcases z with z | z
      · rw [z]; exact Nat.le_add_right _ _
      · rw [z]; exact Nat.le_refl _
    exact I1.fpOk hle (I1.hok.fresh hle)
def pEnt : List D → Option (List D)
  | [.tup l] => some (enuD l)
  | _ => none
section
variable {G : Gm} {X : Cx} {W : WX} {OX OL vs O O1 O2 O3 : List Nat}
theorem enu_walkT {F : Hp} {l0 : List D} {a : Addr} {xs : List V} (rl : RepL G F l0 xs) (h : SqT G.K F a xs) : Walk (IteT G.K a) (enuD l0).length (fun H => Sub F H) (YD G F (enuD l0)) := by
  have e0 : (enuD l0).length = xs.length := by unfold enuD; rw [← rl.length]; simp
  show Walk (IteT G.K a) (enuD l0).length _ _
  rw [e0]
  refine ⟨fun i H hi sb => ⟨xs, xs[i], sb.sqT h, by simp [hi]⟩, fun H sb => ⟨xs, sb.sqT h, Nat.le_refl _⟩, fun i H v H' hi sb y => ?_⟩
  obtain ⟨T, x1, h1, h2, h3, h4⟩ := y
  obtain ⟨d, e, rd⟩ := rl.get' (h4 xs (sb.sqT h))
  refine ⟨.tup [.int (i : Nat), d], ?_, .inr ⟨T, _, [.int (i : Nat), d], rfl, h1, h2, h3, .cons .int (.cons rd .nil)⟩⟩
  unfold enuD
  rw [List.getElem?_map, List.getElem?_zipIdx, e]
  simp
theorem i_ent {e : Expr} {p pos tpos : Pos} {elts : List Expr} {kk : Nat} {f : M (List D)} (ha : PA X [e] (tA G W OX O O1 f)) (hm : X.mg "enumerate" = none := by assumption) (hg : Gl X "enumerate" := by rfl) (hs : starEach [e] X.env = [(false, eval e X.env)] := by rfl) (hK : X.K = G.K := by rfl) :
    PI X (.Tuple elts kk tpos) (.Call (.Name "enumerate" p) [e] [] pos) (iIt G W OX O O1 (itN pEnt f)) :=
  (pi_enumT hg hm ha hs).mo fun σ H R ⟨F, r, S, q⟩ => tX_bind S q fun ds vs F1 H1 r1 n1 rs q => by
    obtain ⟨l, e, q⟩ := itN_of q
    rw [hK]
    unfold pEnt at e
    split at e
    · cases e
      cases rs with
      | cons r1 rr =>
        cases rr
        cases r1 with
        | @tup l0 a xs h rl =>
          exact ⟨a, xs, rfl, n1.sta.sub.sqT h, q _ F1 H1 (Nx.rfl' n1.sta) (enu_walkT rl h)⟩
    · cases e
/-- o.m(k = v, ..) of one class -/
theorem e_methK0 {o : Expr} {kws : List Keyword} {m : Str} {apos pos : Pos} {pl : Sem Bool} {k q : Nat} {ks : List Str} {g : M D} {h2 : M (List D)} {dd : List D} {od : List Nat} (tb : List (Nat × Beh)) (tk : Takes X W) (hr : Room k X.A) (hm : m ∉ G.flds) (ho : PE X o (tE G W OX O O1 g)) (hkw : PK X kws (tA G W OX O1 O3 h2))
    (ht : ∀ c B, tb.lookup c = some B → ∃ a f fd ps ds ds' dvs dvs', MtOk G X.prog X.w X.mg X.base k c m a B f fd ps ds' dvs' ∧ BindK G.K fd ps 1 ks (0 :: od.map (· + 1)) ds ∧ Vals dvs ds ∧ ∀ F, RepL G F dd dvs) (hq : ks.length = q := by rfl) (hx : ∀ i ∈ OX, i ∈ O3 := by decide) (hK : X.K = G.K := by rfl)
    (hall : (backToKw pos (keywordEach kws X.env)).all (·.1.isSome) = true := by rfl) (hks : (backToKw pos (keywordEach kws X.env)).filterMap (·.1) = ks := by rfl)
    (hpl : ((backTo pos (starEach [] X.env)).any (·.1) || (backToKw pos (keywordEach kws X.env)).any (·.1.isNone)) = false := by rfl)
    (hev : eval (.Call (.Attribute o m apos) [] kws pos) X.env = (do
      let ov ← eval o X.env
      standAt apos.atName
      let (fm, fst) ← holding [ov] (getMethod ov m pl)
      callWith pos fm fst (backTo pos (starEach [] X.env)) (backToKw pos (keywordEach kws X.env))) := by rfl) : PE X (.Call (.Attribute o m apos) [] kws pos) (tE G W OX O O3 (eMk tb 0 q od dd g aNil h2)) := by
  refine ⟨fun pins s σ H Q I ⟨F, r, S, p⟩ => ?_⟩
  refine PySem.W.methodCall_KW (pl := pl) (thn (ho.run pins s σ H (fun v H1 => ∃ x F1 r1, Nx G OX O O1 σ F H σ F1 H1 r1 ∧ Rep G F1 x v ∧ Pst G W OX O1 O3 σ F1 H1 (RD G) Q (onMt tb x fun B => (h2 r1).bind fun zs r3 => if ([] : List D).length = 0 ∧ zs.length = q then out0 (B (permL od ([] ++ zs ++ dd))) r3 else .no)) I
    (tX_bind S p fun x v F1 H1 r1 n1 rx p => ⟨x, F1, r1, n1, rx, p⟩)) fun u s1 ⟨v, H1, I1, ru, x, F1, r1, n1, rx, p⟩ => ?_) hev
  obtain ⟨c, l, B, rfl, e1, p⟩ := onMt_of p
  obtain ⟨ar, f, fd, ps, ds, ds', dvs, dvs', M, hb, hd, hdd⟩ := ht c B e1
  obtain ⟨a, dx, fs, rfl, ea, el⟩ := look_m n1.sta rx hm
  obtain rfl : u = Value.ref a := ru
  refine getmeth_ok I1 ea (by rw [hK]; exact M.cl) (by rw [hK]; exact M.me) el ?_
  refine cw0 (first := [.ref a]) (k := fun ds zs r2 => if ds.length = 0 ∧ zs.length = q then out0 (B (.ob c l :: permL od (ds ++ zs ++ dd))) r2 else .no) (by rw [hK]; exact M.me.kp) hkw I1 n1.sta p (fun ds' zs vs ys us ws s2 F2 H2 r2 I2 n2 rs rz rv rw' p => ?_) hall hks hpl
  split at p
  · rename_i hl
    obtain ⟨h1, h2⟩ := hl
    have Fk : FnOk X.prog X.w X.K X.mg X.base (L2.CX X.prog X.w) k f fd ps (spB G ar [] B) := by rw [hK]; exact M.fn
    have rp := RepL.cons (rx.mono n2.stp.fz) (((rs.app rz).app (hdd F2)).perm od)
    have bt : BindK X.K fd ps 1 ks (0 :: od.map (· + 1)) ds := by rw [hK]; exact hb
    have q2 := bt s2 (.ref a :: us) ws I2.kIn (by rw [List.length_cons, vlen rv, ← rs.length, h1]) (by rw [vlen rw', ← rz.length, h2, hq])
    rw [List.cons_append, List.cons_append, permL_cons] at q2
    exact run_Bk tk Fk hr q2 I2 (.cons (show L2.RelV (V.ref a) (Value.ref a) from rfl) (Vals.perm ((rv.append rw').append hd) od)) (spB_of hx n2.sta rp (len_of M.ar rp p) p)
  · exact p.elim
end
end Z

namespace Kw
open PySem PySem.Spec PyProof.Rows L2 Z
def top (i : Nat) : Stmt := PySem.Challenge.pw_whosefirst_k92_ages_of_tours.main.body.getD i (.Pass ⟨0, 0, 0, 0⟩)
def cnm : Nat → Str
  | 0 => ("Ratio" : PySem.Str)
  | 1 => ("Step" : PySem.Str)
  | 2 => ("Tour" : PySem.Str)
  | _ => ""
def lay : Nat → List Str
  | 0 => [("top" : PySem.Str), ("bottom" : PySem.Str)]
  | 1 => [("time" : PySem.Str), ("place" : PySem.Str), ("axes" : PySem.Str), ("square" : PySem.Str), ("kind" : PySem.Str)]
  | 2 => [("parts" : PySem.Str), ("spots" : PySem.Str), ("age" : PySem.Str), ("step" : PySem.Str)]
  | _ => []
def flds : List Str := [("top" : PySem.Str), ("bottom" : PySem.Str), ("time" : PySem.Str), ("place" : PySem.Str), ("axes" : PySem.Str), ("square" : PySem.Str), ("kind" : PySem.Str), ("parts" : PySem.Str), ("spots" : PySem.Str), ("age" : PySem.Str), ("step" : PySem.Str)]
def gm (K : PySem.W.Frag) : Gm := ⟨K, fun c => He.ga K (cnm c), lay, fun _ => true, flds⟩
/-- _law_pen -/
abbrev s0 : Stmt := (top 52)
def d0 : DefZ := ⟨.glo ("_law_pen" : PySem.Str), ("_law_pen" : PySem.Str), ("_law_pen" : PySem.Str), defArgs s0, defBody s0, defScope s0, []⟩
def N0 : List Str := [("_law_script" : PySem.Str), ("_law_cell" : PySem.Str)]
theorem sc0 : FnScope N0 [("_law_script" : PySem.Str)] (defScope s0) := ⟨rfl, rfl, rfl, by decide +kernel, rfl, by decide +kernel, by decide +kernel⟩
def b__law_pen : M D := (eN pLst (aCons (eLc [1] (itL (eSl (eV 0) iNo (iSo (eK (.int 62))))) (gN 1) tY (eN pInt (aCons (eV 1) aNil))) (aCons (eK (.int 0)) (aCons (eK (.int 0)) aNil))))
def B__law_pen : Beh := mkF 1 2 b__law_pen
/-- _law_draw -/
abbrev s1 : Stmt := (top 53)
def d1 : DefZ := ⟨.glo ("_law_draw" : PySem.Str), ("_law_draw" : PySem.Str), ("_law_draw" : PySem.Str), defArgs s1, defBody s1, defScope s1, []⟩
def N1 : List Str := [("_law_pen_here" : PySem.Str), ("_law_many" : PySem.Str), ("_law_digit" : PySem.Str), ("_law_at" : PySem.Str), ("_law_cell" : PySem.Str), ("_law_great" : PySem.Str), ("_law_mixed" : PySem.Str)]
theorem sc1 : FnScope N1 [("_law_pen_here" : PySem.Str), ("_law_many" : PySem.Str)] (defScope s1) := ⟨rfl, rfl, rfl, by decide +kernel, rfl, by decide +kernel, by decide +kernel⟩
def b__law_draw : M Fl := (sSeq (sIf (tV (eB (oP pGt) (eIxO 0 (eK (.int 2))) (eK (.int 0)))) (sSeq (sAs 2 (eB (oP pMod) (eN pInt (aCons (eIxO 0 (eK (.int 2))) aNil)) (eV 1))) (sSeq (sIx 0 (eB (oP pDiv) (eN pInt (aCons (eIxO 0 (eK (.int 2))) aNil)) (eV 1)) (eK (.int 2))) (sRet (eV 2)))) sNil) (sSeq (sAs 3 (eIxO 0 (eK (.int 1)))) (sSeq (sIx 0 (eB (oP pAdd) (eV 3) (eK (.int 1))) (eK (.int 1))) (sSeq (sAs 4 (eB (oP pAdd) (eB (oP pMul) (eK (.int 71257)) (eV 3)) (eK (.int 4919)))) (sSeq (sIf (tV (eB (oP pNe) (eIxO 0 (eK (.int 0))) (eN pLst aNil))) (sAs 4 (eB (oP pIx) (eIxO 0 (eK (.int 0))) (eB (oP pMod) (eN pInt (aCons (eV 3) aNil)) (eN pLen (aCons (eIxO 0 (eK (.int 0))) aNil))))) sNil) (sSeq (sIf (tAn (tV (eB (oP pLt) (eV 3) (eN pLen (aCons (eIxO 0 (eK (.int 0))) aNil)))) (tV (eB (oP pGe) (eN pAbs (aCons (eV 4) aNil)) (eB (oP pPow) (eK (.int 10)) (eK (.int 18)))))) (sSeq (sAs 5 (eB (oP pAdd) (eB (oP pMul) (eK (.int 2)) (eB (oP pSub) (eN pAbs (aCons (eV 4) aNil)) (eB (oP pPow) (eK (.int 10)) (eK (.int 18))))) (eN pInt (aCons (eB (oP pLt) (eV 4) (eK (.int 0))) aNil)))) (sSeq (sIx 0 (eB (oP pDiv) (eN pInt (aCons (eV 5) aNil)) (eV 1)) (eK (.int 2))) (sRet (eB (oP pMod) (eN pInt (aCons (eV 5) aNil)) (eV 1))))) sNil) (sSeq (sAs 6 (eB (oP pMod) (eN pInt (aCons (eB (oP pPow) (eB (oP pAdd) (eB (oP pAdd) (eB (oP pMod) (eN pInt (aCons (eV 4) aNil)) (eK (.int 2147483587))) (eB (oP pMul) (eK (.int 83227)) (eV 3))) (eK (.int 4919))) (eK (.int 5))) aNil)) (eK (.int 2147483629)))) (sSeq (sAs 6 (eB (oP pMod) (eN pInt (aCons (eB (oP pPow) (eB (oP pAdd) (eB (oP pAdd) (eB (oP pMul) (eV 6) (eB (oP pAdd) (eB (oP pMul) (eK (.int 2)) (eV 3)) (eK (.int 2381)))) (eB (oP pMul) (eB (oP pMul) (eK (.int 71257)) (eV 3)) (eV 3))) (eK (.int 83227))) (eK (.int 3))) aNil)) (eK (.int 2147483549)))) (sRet (eB (oP pMod) (eN pInt (aCons (eB (oP pDiv) (eV 6) (eK (.int 64))) aNil)) (eV 1)))))))))))
def B__law_draw : Beh := mkB 2 7 [0] b__law_draw
/-- _law_pick -/
abbrev s2 : Stmt := (top 54)
def d2 : DefZ := ⟨.glo ("_law_pick" : PySem.Str), ("_law_pick" : PySem.Str), ("_law_pick" : PySem.Str), defArgs s2, defBody s2, defScope s2, []⟩
def N2 : List Str := [("_law_pen_here" : PySem.Str), ("_law_some" : PySem.Str)]
theorem sc2 : FnScope N2 [("_law_pen_here" : PySem.Str), ("_law_some" : PySem.Str)] (defScope s2) := ⟨rfl, rfl, rfl, by decide +kernel, rfl, by decide +kernel, by decide +kernel⟩
def b__law_pick : M Fl := (sRet (eB (oP pIx) (eV 1) (eCo B__law_draw 0 (aCons (eN pLen (aCons (eV 1) aNil)) aNil))))
def B__law_pick : Beh := mkB 2 2 [0] b__law_pick
/-- _law_parts -/
abbrev s3 : Stmt := (top 55)
def d3 : DefZ := ⟨.glo ("_law_parts" : PySem.Str), ("_law_parts" : PySem.Str), ("_law_parts" : PySem.Str), defArgs s3, defBody s3, defScope s3, []⟩
def N3 : List Str := [("_law_pen_here" : PySem.Str), ("_law_most" : PySem.Str), ("_law_found" : PySem.Str), ("_law_wide" : PySem.Str), ("_law_turn" : PySem.Str), ("_law_ratio" : PySem.Str), ("_law_beats" : PySem.Str)]
theorem sc3 : FnScope N3 [("_law_pen_here" : PySem.Str), ("_law_most" : PySem.Str)] (defScope s3) := ⟨rfl, rfl, rfl, by decide +kernel, rfl, by decide +kernel, by decide +kernel⟩
def b__law_parts : M Fl := (sSeq (sParF 2 3 (eCo B__law_pick 0 (aCons (eN pLst (aCons (eK (.int 9)) (aCons (eK (.int 9)) (aCons (eK (.int 999)) aNil)))) aNil))) (sSeq (sFor (itN pRng (aCons (eB (oP pAdd) (eK (.int 1)) (eCo B__law_draw 0 (aCons (eV 1) aNil))) aNil)) (gN 4) (sApp 2 (eN pTup (aCons (eN pTup (aCons (eB (oP pAdd) (eK (.int 1)) (eCo B__law_draw 0 (aCons (eV 3) aNil))) (aCons (eB (oP pAdd) (eK (.int 1)) (eCo B__law_draw 0 (aCons (eV 3) aNil))) aNil))) (aCons (eN pTup (aCons (eB (oP pAdd) (eK (.int 1)) (eCo B__law_draw 0 (aCons (eK (.int 20)) aNil))) (aCons (eB (oP pAdd) (eK (.int 1)) (eCo B__law_draw 0 (aCons (eK (.int 6)) aNil))) aNil))) aNil))))) (sSeq (sIf (tV (eB (oP pEq) (eCo B__law_draw 0 (aCons (eK (.int 4)) aNil)) (eK (.int 0)))) (sRet (eLc [5, 6] (itL (eV 2)) (gT [(gN 5), (gN 6)]) tY (eN pTup (aCons (eB (oP pIx) (eB (oP pIx) (eV 2) (eK (.int 0))) (eK (.int 0))) (aCons (eV 6) aNil))))) sNil) (sRet (eV 2)))))
def B__law_parts : Beh := mkB 2 7 [0] b__law_parts
/-- is_integer -/
abbrev s4 : Stmt := (top 4)
def d4 : DefZ := ⟨.glo ("is_integer" : PySem.Str), ("is_integer" : PySem.Str), ("is_integer" : PySem.Str), defArgs s4, defBody s4, defScope s4, []⟩
def N4 : List Str := [("value" : PySem.Str)]
theorem sc4 : FnScope N4 [("value" : PySem.Str)] (defScope s4) := ⟨rfl, rfl, rfl, by decide +kernel, rfl, by decide +kernel, by decide +kernel⟩
def b_is_integer : M Fl := (sRet (eAnd (eIsi (kT [0, 1, 2] "int") (eV 0)) (eNot (eIsi (kT [0, 1, 2] "bool") (eV 0)))))
def B_is_integer : Beh := mkB 1 1 [] b_is_integer
/-- Ratio.__init__ -/
abbrev s5 : Stmt := ((C8.clsBody (top 26)).getD 0 (.Pass ⟨0, 0, 0, 0⟩))
def d5 : DefZ := ⟨.met ("Ratio" : PySem.Str) ("__init__" : PySem.Str), ("__init__" : PySem.Str), ("Ratio.__init__" : PySem.Str), defArgs s5, defBody s5, defScope s5, [.int (1)]⟩
def N5 : List Str := [("self" : PySem.Str), ("top" : PySem.Str), ("bottom" : PySem.Str), ("common" : PySem.Str)]
theorem sc5 : FnScope N5 [("self" : PySem.Str), ("top" : PySem.Str), ("bottom" : PySem.Str)] (defScope s5) := ⟨rfl, rfl, rfl, by decide +kernel, rfl, by decide +kernel, by decide +kernel⟩
def b_Ratio___init__ : M Fl := (sSeq (sIf (tNo (tV (eCd B_is_integer [] (aCons (eV 1) aNil)))) sNo sNil) (sSeq (sIf (tOn (tNo (tV (eCd B_is_integer [] (aCons (eV 2) aNil)))) (tV (eB (oP pEq) (eV 2) (eK (.int 0))))) sNo sNil) (sSeq (sAs 3 (eIf (tV (eB (oP pGt) (eV 2) (eK (.int 0)))) (eN pGcd (aCons (eV 1) (aCons (eV 2) aNil))) (eU (oU pNeg) (eN pGcd (aCons (eV 1) (aCons (eV 2) aNil)))))) (sSeq (sFl 0 [(0, 0)] (eB (oP pDiv) (eV 1) (eV 3))) (sFl 0 [(0, 1)] (eB (oP pDiv) (eV 2) (eV 3)))))))
def B_Ratio___init__ : Beh := mkB 3 4 [0] b_Ratio___init__
/-- ratio_from -/
abbrev s6 : Stmt := (top 23)
def d6 : DefZ := ⟨.glo ("ratio_from" : PySem.Str), ("ratio_from" : PySem.Str), ("ratio_from" : PySem.Str), defArgs s6, defBody s6, defScope s6, []⟩
def N6 : List Str := [("value" : PySem.Str), ("part" : PySem.Str)]
theorem sc6 : FnScope N6 [("value" : PySem.Str), ("part" : PySem.Str)] (defScope s6) := ⟨rfl, rfl, rfl, by decide +kernel, rfl, by decide +kernel, by decide +kernel⟩
def b_ratio_from : M Fl := (sSeq (sIf (tV (eIsi (kO [(0, true), (1, false), (2, false)]) (eV 0))) (sRet (eV 0)) sNil) (sSeq (sIf (tNo (tV (eCd B_is_integer [] (aCons (eV 0) aNil)))) sNo sNil) (sRet (eNd 0 B_Ratio___init__ [.int (1)] (aCons (eV 0) aNil)))))
def B_ratio_from : Beh := mkB 2 2 [] b_ratio_from
/-- Ratio.__add__ -/
abbrev s7 : Stmt := ((C8.clsBody (top 26)).getD 4 (.Pass ⟨0, 0, 0, 0⟩))
def d7 : DefZ := ⟨.met ("Ratio" : PySem.Str) ("__add__" : PySem.Str), ("__add__" : PySem.Str), ("Ratio.__add__" : PySem.Str), defArgs s7, defBody s7, defScope s7, []⟩
def N7 : List Str := [("self" : PySem.Str), ("other" : PySem.Str), ("more" : PySem.Str)]
theorem sc7 : FnScope N7 [("self" : PySem.Str), ("other" : PySem.Str)] (defScope s7) := ⟨rfl, rfl, rfl, by decide +kernel, rfl, by decide +kernel, by decide +kernel⟩
def b_Ratio___add__ : M Fl := (sSeq (sAs 2 (eCd B_ratio_from [] (aCons (eV 1) (aCons (eK (.str "other")) aNil)))) (sRet (eNd 0 B_Ratio___init__ [] (aCons (eB (oP pAdd) (eB (oP pMul) (eFl [(0, 0)] (eV 0)) (eFl [(0, 1)] (eV 2))) (eB (oP pMul) (eFl [(0, 0)] (eV 2)) (eFl [(0, 1)] (eV 0)))) (aCons (eB (oP pMul) (eFl [(0, 1)] (eV 0)) (eFl [(0, 1)] (eV 2))) aNil)))))
def B_Ratio___add__ : Beh := mkB 2 3 [] b_Ratio___add__
/-- Ratio.over -/
abbrev s8 : Stmt := ((C8.clsBody (top 26)).getD 13 (.Pass ⟨0, 0, 0, 0⟩))
def d8 : DefZ := ⟨.met ("Ratio" : PySem.Str) ("over" : PySem.Str), ("over" : PySem.Str), ("Ratio.over" : PySem.Str), defArgs s8, defBody s8, defScope s8, []⟩
def N8 : List Str := [("self" : PySem.Str), ("other" : PySem.Str), ("under" : PySem.Str)]
theorem sc8 : FnScope N8 [("self" : PySem.Str), ("other" : PySem.Str)] (defScope s8) := ⟨rfl, rfl, rfl, by decide +kernel, rfl, by decide +kernel, by decide +kernel⟩
def b_Ratio_over : M Fl := (sSeq (sAs 2 (eCd B_ratio_from [] (aCons (eV 1) (aCons (eK (.str "other")) aNil)))) (sSeq (sIf (tV (eB (oP pEq) (eFl [(0, 0)] (eV 2)) (eK (.int 0)))) sNo sNil) (sRet (eNd 0 B_Ratio___init__ [] (aCons (eB (oP pMul) (eFl [(0, 0)] (eV 0)) (eFl [(0, 1)] (eV 2))) (aCons (eB (oP pMul) (eFl [(0, 1)] (eV 0)) (eFl [(0, 0)] (eV 2))) aNil))))))
def B_Ratio_over : Beh := mkB 2 3 [] b_Ratio_over
/-- Ratio.__mul__ -/
abbrev s9 : Stmt := ((C8.clsBody (top 26)).getD 6 (.Pass ⟨0, 0, 0, 0⟩))
def d9 : DefZ := ⟨.met ("Ratio" : PySem.Str) ("__mul__" : PySem.Str), ("__mul__" : PySem.Str), ("Ratio.__mul__" : PySem.Str), defArgs s9, defBody s9, defScope s9, []⟩
def N9 : List Str := [("self" : PySem.Str), ("other" : PySem.Str), ("times" : PySem.Str)]
theorem sc9 : FnScope N9 [("self" : PySem.Str), ("other" : PySem.Str)] (defScope s9) := ⟨rfl, rfl, rfl, by decide +kernel, rfl, by decide +kernel, by decide +kernel⟩
def b_Ratio___mul__ : M Fl := (sSeq (sAs 2 (eCd B_ratio_from [] (aCons (eV 1) (aCons (eK (.str "other")) aNil)))) (sRet (eNd 0 B_Ratio___init__ [] (aCons (eB (oP pMul) (eFl [(0, 0)] (eV 0)) (eFl [(0, 0)] (eV 2))) (aCons (eB (oP pMul) (eFl [(0, 1)] (eV 0)) (eFl [(0, 1)] (eV 2))) aNil)))))
def B_Ratio___mul__ : Beh := mkB 2 3 [] b_Ratio___mul__
/-- lights_along -/
abbrev s10 : Stmt := (top 46)
def d10 : DefZ := ⟨.glo ("lights_along" : PySem.Str), ("lights_along" : PySem.Str), ("lights_along" : PySem.Str), defArgs s10, defBody s10, defScope s10, []⟩
def N10 : List Str := [("parts" : PySem.Str), ("found" : PySem.Str), ("ratio" : PySem.Str), ("beats" : PySem.Str), ("age" : PySem.Str), ("right" : PySem.Str), ("left" : PySem.Str)]
theorem sc10 : FnScope N10 [("parts" : PySem.Str)] (defScope s10) := ⟨rfl, rfl, rfl, by decide +kernel, rfl, by decide +kernel, by decide +kernel⟩
def b_lights_along : M Fl := (sSeq (sAsF 1 (eN pLst (aCons (eN pTup (aCons (eNd 0 B_Ratio___init__ [.int (1)] (aCons (eK (.int 0)) aNil)) (aCons (eNd 0 B_Ratio___init__ [.int (1)] (aCons (eK (.int 0)) aNil)) (aCons (eNd 0 B_Ratio___init__ [.int (1)] (aCons (eK (.int 0)) aNil)) aNil)))) aNil))) (sSeq (sFor (itL (eV 0)) (gT [(gN 2), (gN 3)]) (sSeq (sTg (gT [(gN 4), (gN 5), (gN 6)]) (eIxO 1 (eU (oU pNeg) (eK (.int 1))))) (sApp 1 (eN pTup (aCons (eB (oW [(0, B_Ratio___add__)] ["int"] [0, 1] pAdd) (eV 4) (eV 3)) (aCons (eB (oW [(0, B_Ratio___add__)] ["int"] [0, 1] pAdd) (eV 5) (eMd [(0, B_Ratio_over)] [] (eV 3) (aCons (eV 2) aNil))) (aCons (eB (oW [(0, B_Ratio___add__)] ["int"] [0, 1] pAdd) (eV 6) (eB (oW [(0, B_Ratio___mul__)] ["int"] [0, 1] pMul) (eV 3) (eV 2))) aNil))))))) (sRet (eV 1))))
def B_lights_along : Beh := mkB 1 7 [] b_lights_along
/-- is_listed -/
abbrev s11 : Stmt := (top 6)
def d11 : DefZ := ⟨.glo ("is_listed" : PySem.Str), ("is_listed" : PySem.Str), ("is_listed" : PySem.Str), defArgs s11, defBody s11, defScope s11, []⟩
def N11 : List Str := [("value" : PySem.Str)]
theorem sc11 : FnScope N11 [("value" : PySem.Str)] (defScope s11) := ⟨rfl, rfl, rfl, by decide +kernel, rfl, by decide +kernel, by decide +kernel⟩
def b_is_listed : M Fl := (sRet (eIsi (kAny [(kT [0, 1, 2] "list"), (kT [0, 1, 2] "tuple")]) (eV 0)))
def B_is_listed : Beh := mkB 1 1 [] b_is_listed
/-- Ratio.of -/
abbrev s12 : Stmt := ((C8.clsBody (top 26)).getD 1 (.Pass ⟨0, 0, 0, 0⟩))
def d12 : DefZ := ⟨.sta ("Ratio" : PySem.Str) ("of" : PySem.Str), ("of" : PySem.Str), ("Ratio.of" : PySem.Str), defArgs s12, defBody s12, defScope s12, []⟩
def N12 : List Str := [("value" : PySem.Str)]
theorem sc12 : FnScope N12 [("value" : PySem.Str)] (defScope s12) := ⟨rfl, rfl, rfl, by decide +kernel, rfl, by decide +kernel, by decide +kernel⟩
def b_Ratio_of : M Fl := (sRet (eCd B_ratio_from [] (aCons (eV 0) (aCons (eK (.str "value")) aNil))))
def B_Ratio_of : Beh := mkB 1 1 [] b_Ratio_of
/-- Ratio.__neg__ -/
abbrev s13 : Stmt := ((C8.clsBody (top 26)).getD 7 (.Pass ⟨0, 0, 0, 0⟩))
def d13 : DefZ := ⟨.met ("Ratio" : PySem.Str) ("__neg__" : PySem.Str), ("__neg__" : PySem.Str), ("Ratio.__neg__" : PySem.Str), defArgs s13, defBody s13, defScope s13, []⟩
def N13 : List Str := [("self" : PySem.Str)]
theorem sc13 : FnScope N13 [("self" : PySem.Str)] (defScope s13) := ⟨rfl, rfl, rfl, by decide +kernel, rfl, by decide +kernel, by decide +kernel⟩
def b_Ratio___neg__ : M Fl := (sRet (eNd 0 B_Ratio___init__ [] (aCons (eU (oU pNeg) (eFl [(0, 0)] (eV 0))) (aCons (eFl [(0, 1)] (eV 0)) aNil))))
def B_Ratio___neg__ : Beh := mkB 1 1 [] b_Ratio___neg__
/-- Ratio.__sub__ -/
abbrev s14 : Stmt := ((C8.clsBody (top 26)).getD 5 (.Pass ⟨0, 0, 0, 0⟩))
def d14 : DefZ := ⟨.met ("Ratio" : PySem.Str) ("__sub__" : PySem.Str), ("__sub__" : PySem.Str), ("Ratio.__sub__" : PySem.Str), defArgs s14, defBody s14, defScope s14, []⟩
def N14 : List Str := [("self" : PySem.Str), ("other" : PySem.Str)]
theorem sc14 : FnScope N14 [("self" : PySem.Str), ("other" : PySem.Str)] (defScope s14) := ⟨rfl, rfl, rfl, by decide +kernel, rfl, by decide +kernel, by decide +kernel⟩
def b_Ratio___sub__ : M Fl := (sRet (eB (oW [(0, B_Ratio___add__)] ["int"] [0, 1] pAdd) (eV 0) (eU (oC1 [(0, B_Ratio___neg__)] pNeg) (eCd B_ratio_from [] (aCons (eV 1) (aCons (eK (.str "other")) aNil))))))
def B_Ratio___sub__ : Beh := mkB 2 2 [] b_Ratio___sub__
/-- is_ratio -/
abbrev s15 : Stmt := (top 21)
def d15 : DefZ := ⟨.glo ("is_ratio" : PySem.Str), ("is_ratio" : PySem.Str), ("is_ratio" : PySem.Str), defArgs s15, defBody s15, defScope s15, []⟩
def N15 : List Str := [("value" : PySem.Str)]
theorem sc15 : FnScope N15 [("value" : PySem.Str)] (defScope s15) := ⟨rfl, rfl, rfl, by decide +kernel, rfl, by decide +kernel, by decide +kernel⟩
def b_is_ratio : M Fl := (sRet (eOr (eIsi (kO [(0, true), (1, false), (2, false)]) (eV 0)) (eCd B_is_integer [] (aCons (eV 0) aNil))))
def B_is_ratio : Beh := mkB 1 1 [] b_is_ratio
/-- are_ratios -/
abbrev s16 : Stmt := (top 22)
def d16 : DefZ := ⟨.glo ("are_ratios" : PySem.Str), ("are_ratios" : PySem.Str), ("are_ratios" : PySem.Str), defArgs s16, defBody s16, defScope s16, []⟩
def N16 : List Str := [("value" : PySem.Str), ("each" : PySem.Str)]
theorem sc16 : FnScope N16 [("value" : PySem.Str)] (defScope s16) := ⟨rfl, rfl, rfl, by decide +kernel, rfl, by decide +kernel, by decide +kernel⟩
def b_are_ratios : M Fl := (sRet (eAnd (eCd B_is_listed [] (aCons (eV 0) aNil)) (eN pAll (aCons (eLc [1] (itL (eV 0)) (gN 1) tY (eCd B_is_ratio [] (aCons (eV 1) aNil))) aNil))))
def B_are_ratios : Beh := mkB 1 2 [] b_are_ratios
/-- summed -/
abbrev s17 : Stmt := (top 27)
def d17 : DefZ := ⟨.glo ("summed" : PySem.Str), ("summed" : PySem.Str), ("summed" : PySem.Str), defArgs s17, defBody s17, defScope s17, []⟩
def N17 : List Str := [("ratios" : PySem.Str), ("total" : PySem.Str), ("each" : PySem.Str)]
theorem sc17 : FnScope N17 [("ratios" : PySem.Str)] (defScope s17) := ⟨rfl, rfl, rfl, by decide +kernel, rfl, by decide +kernel, by decide +kernel⟩
def b_summed : M Fl := (sSeq (sIf (tNo (tV (eCd B_are_ratios [] (aCons (eV 0) aNil)))) sNo sNil) (sSeq (sAs 1 (eNd 0 B_Ratio___init__ [.int (1)] (aCons (eK (.int 0)) aNil))) (sSeq (sFor (itL (eV 0)) (gN 2) (sAs 1 (eB (oW [(0, B_Ratio___add__)] ["int"] [0, 1] pAdd) (eV 1) (eV 2)))) (sRet (eV 1)))))
def B_summed : Beh := mkB 1 3 [] b_summed
/-- product_at -/
abbrev s18 : Stmt := (top 33)
def d18 : DefZ := ⟨.glo ("product_at" : PySem.Str), ("product_at" : PySem.Str), ("product_at" : PySem.Str), defArgs s18, defBody s18, defScope s18, []⟩
def N18 : List Str := [("one" : PySem.Str), ("other" : PySem.Str), ("mine" : PySem.Str), ("its" : PySem.Str)]
theorem sc18 : FnScope N18 [("one" : PySem.Str), ("other" : PySem.Str)] (defScope s18) := ⟨rfl, rfl, rfl, by decide +kernel, rfl, by decide +kernel, by decide +kernel⟩
def b_product_at : M Fl := (sRet (eB (oW [(0, B_Ratio___sub__)] ["int"] [0, 1] pSub) (eB (oW [(0, B_Ratio___mul__)] ["int"] [0, 1] pMul) (eFl [(1, 0)] (eV 0)) (eFl [(1, 0)] (eV 1))) (eCd B_summed [] (aCons (eLc [2, 3] (itN pZip (aCons (eFl [(1, 1)] (eV 0)) (aCons (eFl [(1, 1)] (eV 1)) aNil))) (gT [(gN 2), (gN 3)]) tY (eB (oW [(0, B_Ratio___mul__)] ["int"] [0, 1] pMul) (eV 2) (eV 3))) aNil))))
def B_product_at : Beh := mkB 2 4 [] b_product_at
/-- Ratio.sign -/
abbrev s19 : Stmt := ((C8.clsBody (top 26)).getD 3 (.Pass ⟨0, 0, 0, 0⟩))
def d19 : DefZ := ⟨.prp ("Ratio" : PySem.Str) ("sign" : PySem.Str), ("sign" : PySem.Str), ("Ratio.sign" : PySem.Str), defArgs s19, defBody s19, defScope s19, []⟩
def N19 : List Str := [("self" : PySem.Str)]
theorem sc19 : FnScope N19 [("self" : PySem.Str)] (defScope s19) := ⟨rfl, rfl, rfl, by decide +kernel, rfl, by decide +kernel, by decide +kernel⟩
def b_Ratio_sign : M Fl := (sRet (eB (oP pSub) (eN pInt (aCons (eB (oP pGt) (eFl [(0, 0)] (eV 0)) (eK (.int 0))) aNil)) (eN pInt (aCons (eB (oP pLt) (eFl [(0, 0)] (eV 0)) (eK (.int 0))) aNil))))
def B_Ratio_sign : Beh := mkB 1 1 [] b_Ratio_sign
/-- kind_by -/
abbrev s20 : Stmt := (top 32)
def d20 : DefZ := ⟨.glo ("kind_by" : PySem.Str), ("kind_by" : PySem.Str), ("kind_by" : PySem.Str), defArgs s20, defBody s20, defScope s20, []⟩
def N20 : List Str := [("time" : PySem.Str), ("square" : PySem.Str)]
theorem sc20 : FnScope N20 [("time" : PySem.Str), ("square" : PySem.Str)] (defScope s20) := ⟨rfl, rfl, rfl, by decide +kernel, rfl, by decide +kernel, by decide +kernel⟩
def b_kind_by : M Fl := (sSeq (sIf (tV (eB (oP pLt) (ePr [(0, B_Ratio_sign)] (eV 1)) (eK (.int 0)))) (sRet (eK (.str "apart"))) sNil) (sSeq (sIf (tV (eB (oP pEq) (ePr [(0, B_Ratio_sign)] (eV 0)) (eK (.int 0)))) (sRet (eK (.str "nothing"))) sNil) (sRet (eIf (tV (eB (oP pGt) (ePr [(0, B_Ratio_sign)] (eV 0)) (eK (.int 0)))) (eK (.str "forward")) (eK (.str "backward"))))))
def B_kind_by : Beh := mkB 2 2 [] b_kind_by
/-- Step.__init__ -/
abbrev s21 : Stmt := ((C8.clsBody (top 36)).getD 0 (.Pass ⟨0, 0, 0, 0⟩))
def d21 : DefZ := ⟨.met ("Step" : PySem.Str) ("__init__" : PySem.Str), ("__init__" : PySem.Str), ("Step.__init__" : PySem.Str), defArgs s21, defBody s21, defScope s21, []⟩
def N21 : List Str := [("self" : PySem.Str), ("time" : PySem.Str), ("place" : PySem.Str), ("each" : PySem.Str)]
theorem sc21 : FnScope N21 [("self" : PySem.Str), ("time" : PySem.Str), ("place" : PySem.Str)] (defScope s21) := ⟨rfl, rfl, rfl, by decide +kernel, rfl, by decide +kernel, by decide +kernel⟩
def b_Step___init__ : M Fl := (sSeq (sIf (tNo (tV (eCd B_is_ratio [] (aCons (eV 1) aNil)))) sNo sNil) (sSeq (sIf (tOn (tNo (tV (eCd B_are_ratios [] (aCons (eV 2) aNil)))) (tNo (tV (eChain (oP pLe) (oP pLe) (eK (.int 1)) (eN pLen (aCons (eV 2) aNil)) (eK (.int (3))))))) sNo sNil) (sSeq (sFl 0 [(1, 0)] (eCd B_Ratio_of [] (aCons (eV 1) aNil))) (sSeq (sFl 0 [(1, 1)] (eN pTuple (aCons (eLc [3] (itL (eV 2)) (gN 3) tY (eCd B_Ratio_of [] (aCons (eV 3) aNil))) aNil))) (sSeq (sFl 0 [(1, 2)] (eN pLen (aCons (eFl [(1, 1)] (eS (fun _ => true) 0)) aNil))) (sSeq (sFl 0 [(1, 3)] (eCd B_product_at [] (aCons (eS (fun _ => true) 0) (aCons (eS (fun _ => true) 0) aNil)))) (sFl 0 [(1, 4)] (eCd B_kind_by [] (aCons (eFl [(1, 0)] (eS (fun _ => true) 0)) (aCons (eFl [(1, 3)] (eS (fun _ => true) 0)) aNil))))))))))
def B_Step___init__ : Beh := mkB 3 4 [0] b_Step___init__
/-- lit_spot -/
abbrev s22 : Stmt := (top 38)
def d22 : DefZ := ⟨.glo ("lit_spot" : PySem.Str), ("lit_spot" : PySem.Str), ("lit_spot" : PySem.Str), defArgs s22, defBody s22, defScope s22, []⟩
def N22 : List Str := [("right" : PySem.Str), ("left" : PySem.Str), ("half" : PySem.Str)]
theorem sc22 : FnScope N22 [("right" : PySem.Str), ("left" : PySem.Str)] (defScope s22) := ⟨rfl, rfl, rfl, by decide +kernel, rfl, by decide +kernel, by decide +kernel⟩
def b_lit_spot : M Fl := (sSeq (sAs 2 (eNd 0 B_Ratio___init__ [] (aCons (eK (.int 1)) (aCons (eK (.int 2)) aNil)))) (sRet (eNd 1 B_Step___init__ [] (aCons (eB (oW [(0, B_Ratio___mul__)] ["int"] [0, 1] pMul) (eB (oW [(0, B_Ratio___add__)] ["int"] [0, 1] pAdd) (eV 0) (eV 1)) (eV 2)) (aCons (eN pLst (aCons (eB (oW [(0, B_Ratio___mul__)] ["int"] [0, 1] pMul) (eB (oW [(0, B_Ratio___sub__)] ["int"] [0, 1] pSub) (eV 1) (eV 0)) (eV 2)) aNil)) aNil)))))
def B_lit_spot : Beh := mkB 2 3 [] b_lit_spot
/-- is_part -/
abbrev s23 : Stmt := (top 41)
def d23 : DefZ := ⟨.glo ("is_part" : PySem.Str), ("is_part" : PySem.Str), ("is_part" : PySem.Str), defArgs s23, defBody s23, defScope s23, []⟩
def N23 : List Str := [("value" : PySem.Str), ("one" : PySem.Str)]
theorem sc23 : FnScope N23 [("value" : PySem.Str)] (defScope s23) := ⟨rfl, rfl, rfl, by decide +kernel, rfl, by decide +kernel, by decide +kernel⟩
def b_is_part : M Fl := (sRet (eAnd (eCd B_is_listed [] (aCons (eV 0) aNil)) (eAnd (eB (oP pEq) (eN pLen (aCons (eV 0) aNil)) (eK (.int 2))) (eN pAll (aCons (eLc [1] (itL (eV 0)) (gN 1) tY (eAnd (eCd B_is_ratio [] (aCons (eV 1) aNil)) (eB (oP pGt) (ePr [(0, B_Ratio_sign)] (eCd B_Ratio_of [] (aCons (eV 1) aNil))) (eK (.int 0))))) aNil)))))
def B_is_part : Beh := mkB 1 2 [] b_is_part
/-- Tour.__init__ -/
abbrev s24 : Stmt := ((C8.clsBody (top 42)).getD 0 (.Pass ⟨0, 0, 0, 0⟩))
def d24 : DefZ := ⟨.met ("Tour" : PySem.Str) ("__init__" : PySem.Str), ("__init__" : PySem.Str), ("Tour.__init__" : PySem.Str), defArgs s24, defBody s24, defScope s24, []⟩
def N24 : List Str := [("self" : PySem.Str), ("parts" : PySem.Str), ("lights" : PySem.Str), ("one" : PySem.Str), ("age" : PySem.Str), ("right" : PySem.Str), ("left" : PySem.Str)]
theorem sc24 : FnScope N24 [("self" : PySem.Str), ("parts" : PySem.Str)] (defScope s24) := ⟨rfl, rfl, rfl, by decide +kernel, rfl, by decide +kernel, by decide +kernel⟩
def b_Tour___init__ : M Fl := (sSeq (sIf (tOn (tNo (tV (eCd B_is_listed [] (aCons (eV 1) aNil)))) (tOn (tV (eB (oP pEq) (eN pLen (aCons (eV 1) aNil)) (eK (.int 0)))) (tNo (tV (eN pAll (aCons (eLc [3] (itL (eV 1)) (gN 3) tY (eCd B_is_part [] (aCons (eV 3) aNil))) aNil)))))) sNo sNil) (sSeq (sIf (tV (eB (oP pGt) (eN pLen (aCons (eV 1) aNil)) (eK (.int (12))))) sNo sNil) (sSeq (sFl 0 [(2, 0)] (eN pTuple (aCons (eLc [3] (itL (eV 1)) (gN 3) tY (eN pTup (aCons (eCd B_Ratio_of [] (aCons (eB (oP pIx) (eV 3) (eK (.int 0))) aNil)) (aCons (eCd B_Ratio_of [] (aCons (eB (oP pIx) (eV 3) (eK (.int 1))) aNil)) aNil)))) aNil))) (sSeq (sAs 2 (eCd B_lights_along [] (aCons (eFl [(2, 0)] (eS (fun _ => true) 0)) aNil))) (sSeq (sFl 0 [(2, 1)] (eN pTuple (aCons (eLc [4, 5, 6] (itL (eV 2)) (gT [(gN 4), (gN 5), (gN 6)]) tY (eCd B_lit_spot [] (aCons (eV 5) (aCons (eV 6) aNil)))) aNil))) (sSeq (sFl 0 [(2, 2)] (eB (oP pIx) (eB (oP pIx) (eV 2) (eU (oU pNeg) (eK (.int 1)))) (eK (.int 0)))) (sFl 0 [(2, 3)] (eB (oP pIx) (eFl [(2, 1)] (eS (fun _ => true) 0)) (eU (oU pNeg) (eK (.int 1)))))))))))
def B_Tour___init__ : Beh := mkB 2 7 [0] b_Tour___init__
/-- _law_tour -/
abbrev s25 : Stmt := (top 56)
def d25 : DefZ := ⟨.glo ("_law_tour" : PySem.Str), ("_law_tour" : PySem.Str), ("_law_tour" : PySem.Str), defArgs s25, defBody s25, defScope s25, []⟩
def N25 : List Str := [("_law_parts_here" : PySem.Str), ("_law_ratio" : PySem.Str), ("_law_beats" : PySem.Str)]
theorem sc25 : FnScope N25 [("_law_parts_here" : PySem.Str)] (defScope s25) := ⟨rfl, rfl, rfl, by decide +kernel, rfl, by decide +kernel, by decide +kernel⟩
def b__law_tour : M Fl := (sRet (eNd 2 B_Tour___init__ [] (aCons (eLc [1, 2] (itL (eV 0)) (gT [(gN 1), (gN 2)]) tY (eN pTup (aCons (eNd 0 B_Ratio___init__ [] (aCons (eB (oP pIx) (eV 1) (eK (.int 0))) (aCons (eB (oP pIx) (eV 1) (eK (.int 1))) aNil))) (aCons (eNd 0 B_Ratio___init__ [] (aCons (eB (oP pIx) (eV 2) (eK (.int 0))) (aCons (eB (oP pIx) (eV 2) (eK (.int 1))) aNil))) aNil)))) aNil)))
def B__law_tour : Beh := mkB 1 3 [] b__law_tour
/-- _law_plus -/
abbrev s26 : Stmt := (top 57)
def d26 : DefZ := ⟨.glo ("_law_plus" : PySem.Str), ("_law_plus" : PySem.Str), ("_law_plus" : PySem.Str), defArgs s26, defBody s26, defScope s26, []⟩
def N26 : List Str := [("_law_one" : PySem.Str), ("_law_other" : PySem.Str)]
theorem sc26 : FnScope N26 [("_law_one" : PySem.Str), ("_law_other" : PySem.Str)] (defScope s26) := ⟨rfl, rfl, rfl, by decide +kernel, rfl, by decide +kernel, by decide +kernel⟩
def b__law_plus : M Fl := (sSeq (sIf (tV (eB (oP pEq) (eB (oP pIx) (eV 0) (eK (.int 1))) (eB (oP pIx) (eV 1) (eK (.int 1))))) (sRet (eN pTup (aCons (eB (oP pAdd) (eB (oP pIx) (eV 0) (eK (.int 0))) (eB (oP pIx) (eV 1) (eK (.int 0)))) (aCons (eB (oP pIx) (eV 0) (eK (.int 1))) aNil)))) sNil) (sRet (eN pTup (aCons (eB (oP pAdd) (eB (oP pMul) (eB (oP pIx) (eV 0) (eK (.int 0))) (eB (oP pIx) (eV 1) (eK (.int 1)))) (eB (oP pMul) (eB (oP pIx) (eV 1) (eK (.int 0))) (eB (oP pIx) (eV 0) (eK (.int 1))))) (aCons (eB (oP pMul) (eB (oP pIx) (eV 0) (eK (.int 1))) (eB (oP pIx) (eV 1) (eK (.int 1)))) aNil)))))
def B__law_plus : Beh := mkB 2 2 [] b__law_plus
/-- _law_lights -/
abbrev s27 : Stmt := (top 58)
def d27 : DefZ := ⟨.glo ("_law_lights" : PySem.Str), ("_law_lights" : PySem.Str), ("_law_lights" : PySem.Str), defArgs s27, defBody s27, defScope s27, []⟩
def N27 : List Str := [("_law_parts_here" : PySem.Str), ("_law_found" : PySem.Str), ("_law_beats" : PySem.Str), ("_law_top" : PySem.Str), ("_law_bottom" : PySem.Str), ("_law_age" : PySem.Str), ("_law_right" : PySem.Str), ("_law_left" : PySem.Str)]
theorem sc27 : FnScope N27 [("_law_parts_here" : PySem.Str)] (defScope s27) := ⟨rfl, rfl, rfl, by decide +kernel, rfl, by decide +kernel, by decide +kernel⟩
def b__law_lights : M Fl := (sSeq (sAsF 1 (eN pLst (aCons (eN pTup (aCons (eN pTup (aCons (eK (.int 0)) (aCons (eK (.int 1)) aNil))) (aCons (eN pTup (aCons (eK (.int 0)) (aCons (eK (.int 1)) aNil))) (aCons (eN pTup (aCons (eK (.int 0)) (aCons (eK (.int 1)) aNil))) aNil)))) aNil))) (sSeq (sFor (itL (eV 0)) (gT [(gT [(gN 3), (gN 4)]), (gN 2)]) (sSeq (sTg (gT [(gN 5), (gN 6), (gN 7)]) (eIxO 1 (eU (oU pNeg) (eK (.int 1))))) (sSeq (sAs 6 (eCd B__law_plus [] (aCons (eV 6) (aCons (eN pTup (aCons (eB (oP pMul) (eB (oP pIx) (eV 2) (eK (.int 0))) (eV 4)) (aCons (eB (oP pMul) (eB (oP pIx) (eV 2) (eK (.int 1))) (eV 3)) aNil))) aNil)))) (sApp 1 (eN pTup (aCons (eCd B__law_plus [] (aCons (eV 5) (aCons (eV 2) aNil))) (aCons (eV 6) (aCons (eCd B__law_plus [] (aCons (eV 7) (aCons (eN pTup (aCons (eB (oP pMul) (eB (oP pIx) (eV 2) (eK (.int 0))) (eV 3)) (aCons (eB (oP pMul) (eB (oP pIx) (eV 2) (eK (.int 1))) (eV 4)) aNil))) aNil))) aNil)))))))) (sRet (eV 1))))
def B__law_lights : Beh := mkB 1 8 [] b__law_lights
/-- Ratio.__eq__ -/
abbrev s28 : Stmt := ((C8.clsBody (top 26)).getD 10 (.Pass ⟨0, 0, 0, 0⟩))
def d28 : DefZ := ⟨.met ("Ratio" : PySem.Str) ("__eq__" : PySem.Str), ("__eq__" : PySem.Str), ("Ratio.__eq__" : PySem.Str), defArgs s28, defBody s28, defScope s28, []⟩
def N28 : List Str := [("self" : PySem.Str), ("other" : PySem.Str)]
theorem sc28 : FnScope N28 [("self" : PySem.Str), ("other" : PySem.Str)] (defScope s28) := ⟨rfl, rfl, rfl, by decide +kernel, rfl, by decide +kernel, by decide +kernel⟩
def b_Ratio___eq__ : M Fl := (sSeq (sIf (tV (eIsi (kO [(0, true), (1, false), (2, false)]) (eV 1))) (sRet (eAnd (eB (oP pEq) (eFl [(0, 0)] (eV 0)) (eFl [(0, 0)] (eV 1))) (eB (oP pEq) (eFl [(0, 1)] (eV 0)) (eFl [(0, 1)] (eV 1))))) sNil) (sRet (eAnd (eCd B_is_integer [] (aCons (eV 1) aNil)) (eAnd (eB (oP pEq) (eFl [(0, 1)] (eV 0)) (eK (.int 1))) (eB (oP pEq) (eFl [(0, 0)] (eV 0)) (eV 1))))))
def B_Ratio___eq__ : Beh := mkB 2 2 [] b_Ratio___eq__
/-- Step.__eq__ -/
abbrev s29 : Stmt := ((C8.clsBody (top 36)).getD 7 (.Pass ⟨0, 0, 0, 0⟩))
def d29 : DefZ := ⟨.met ("Step" : PySem.Str) ("__eq__" : PySem.Str), ("__eq__" : PySem.Str), ("Step.__eq__" : PySem.Str), defArgs s29, defBody s29, defScope s29, []⟩
def N29 : List Str := [("self" : PySem.Str), ("other" : PySem.Str)]
theorem sc29 : FnScope N29 [("self" : PySem.Str), ("other" : PySem.Str)] (defScope s29) := ⟨rfl, rfl, rfl, by decide +kernel, rfl, by decide +kernel, by decide +kernel⟩
def b_Step___eq__ : M Fl := (sRet (eAnd (eIsi (kO [(0, false), (1, true), (2, false)]) (eV 1)) (eAnd (eB (oET [(0, B_Ratio___eq__)] ["int"] [0, 1, 2]) (eFl [(1, 0)] (eV 0)) (eFl [(1, 0)] (eV 1))) (eB (oET [(0, B_Ratio___eq__)] ["int"] [0, 1, 2]) (eFl [(1, 1)] (eV 0)) (eFl [(1, 1)] (eV 1))))))
def B_Step___eq__ : Beh := mkB 2 2 [] b_Step___eq__
/-- need_tour -/
abbrev s30 : Stmt := (top 43)
def d30 : DefZ := ⟨.glo ("need_tour" : PySem.Str), ("need_tour" : PySem.Str), ("need_tour" : PySem.Str), defArgs s30, defBody s30, defScope s30, []⟩
def N30 : List Str := [("value" : PySem.Str), ("part" : PySem.Str)]
theorem sc30 : FnScope N30 [("value" : PySem.Str), ("part" : PySem.Str)] (defScope s30) := ⟨rfl, rfl, rfl, by decide +kernel, rfl, by decide +kernel, by decide +kernel⟩
def b_need_tour : M Fl := (sIf (tNo (tV (eIsi (kO [(0, false), (1, false), (2, true)]) (eV 0)))) sNo sNil)
def B_need_tour : Beh := mkB 2 2 [] b_need_tour
/-- Ratio.is_below -/
abbrev s31 : Stmt := ((C8.clsBody (top 26)).getD 14 (.Pass ⟨0, 0, 0, 0⟩))
def d31 : DefZ := ⟨.met ("Ratio" : PySem.Str) ("is_below" : PySem.Str), ("is_below" : PySem.Str), ("Ratio.is_below" : PySem.Str), defArgs s31, defBody s31, defScope s31, []⟩
def N31 : List Str := [("self" : PySem.Str), ("other" : PySem.Str)]
theorem sc31 : FnScope N31 [("self" : PySem.Str), ("other" : PySem.Str)] (defScope s31) := ⟨rfl, rfl, rfl, by decide +kernel, rfl, by decide +kernel, by decide +kernel⟩
def b_Ratio_is_below : M Fl := (sRet (eB (oP pLt) (ePr [(0, B_Ratio_sign)] (eB (oW [(0, B_Ratio___sub__)] ["int"] [0, 1] pSub) (eV 0) (eCd B_ratio_from [] (aCons (eV 1) (aCons (eK (.str "other")) aNil))))) (eK (.int 0))))
def B_Ratio_is_below : Beh := mkB 2 2 [] b_Ratio_is_below
/-- spot_at -/
abbrev s32 : Stmt := (top 49)
def d32 : DefZ := ⟨.glo ("spot_at" : PySem.Str), ("spot_at" : PySem.Str), ("spot_at" : PySem.Str), defArgs s32, defBody s32, defScope s32, []⟩
def N32 : List Str := [("tour" : PySem.Str), ("age" : PySem.Str), ("left" : PySem.Str), ("parts" : PySem.Str), ("ratio" : PySem.Str), ("beats" : PySem.Str), ("some" : PySem.Str), ("end" : PySem.Str)]
theorem sc32 : FnScope N32 [("tour" : PySem.Str), ("age" : PySem.Str)] (defScope s32) := ⟨rfl, rfl, rfl, by decide +kernel, rfl, by decide +kernel, by decide +kernel⟩
def b_spot_at : M Fl := (sSeq (sEx (eCd B_need_tour [] (aCons (eV 0) (aCons (eK (.str "tour")) aNil)))) (sSeq (sIf (tOn (tNo (tV (eCd B_is_ratio [] (aCons (eV 1) aNil)))) (tOn (tV (eB (oP pLt) (ePr [(0, B_Ratio_sign)] (eCd B_Ratio_of [] (aCons (eV 1) aNil))) (eK (.int 0)))) (tV (eMd [(0, B_Ratio_is_below)] [] (eFl [(2, 2)] (eV 0)) (aCons (eV 1) aNil))))) sNo sNil) (sSeq (sParG 2 3 (eCd B_Ratio_of [] (aCons (eV 1) aNil))) (sSeq (sFor (itL (eFl [(2, 0)] (eV 0))) (gT [(gN 4), (gN 5)]) (sSeq (sAs 6 (eIf (tV (eMd [(0, B_Ratio_is_below)] [] (eV 2) (aCons (eV 5) aNil))) (eV 2) (eV 5))) (sSeq (sApp 3 (eN pTup (aCons (eV 4) (aCons (eV 6) aNil)))) (sAs 2 (eB (oW [(0, B_Ratio___sub__)] ["int"] [0, 1] pSub) (eV 2) (eV 6)))))) (sSeq (sAs 7 (eB (oP pIx) (eCd B_lights_along [] (aCons (eV 3) aNil)) (eU (oU pNeg) (eK (.int 1))))) (sRet (eCd B_lit_spot [] (aCons (eB (oP pIx) (eV 7) (eK (.int 1))) (aCons (eB (oP pIx) (eV 7) (eK (.int 2))) aNil)))))))))
def B_spot_at : Beh := mkB 2 8 [] b_spot_at
/-- _law_lit -/
abbrev s33 : Stmt := (top 59)
def d33 : DefZ := ⟨.glo ("_law_lit" : PySem.Str), ("_law_lit" : PySem.Str), ("_law_lit" : PySem.Str), defArgs s33, defBody s33, defScope s33, []⟩
def N33 : List Str := [("_law_right" : PySem.Str), ("_law_left" : PySem.Str), ("_law_time" : PySem.Str), ("_law_place" : PySem.Str)]
theorem sc33 : FnScope N33 [("_law_right" : PySem.Str), ("_law_left" : PySem.Str)] (defScope s33) := ⟨rfl, rfl, rfl, by decide +kernel, rfl, by decide +kernel, by decide +kernel⟩
def b__law_lit : M Fl := (sSeq (sPar [gN 2, gN 3] (aCons (eCd B__law_plus [] (aCons (eV 1) (aCons (eV 0) aNil))) (aCons (eCd B__law_plus [] (aCons (eV 1) (aCons (eN pTup (aCons (eU (oU pNeg) (eB (oP pIx) (eV 0) (eK (.int 0)))) (aCons (eB (oP pIx) (eV 0) (eK (.int 1))) aNil))) aNil))) aNil))) (sRet (eNd 1 B_Step___init__ [] (aCons (eNd 0 B_Ratio___init__ [] (aCons (eB (oP pIx) (eV 2) (eK (.int 0))) (aCons (eB (oP pMul) (eK (.int 2)) (eB (oP pIx) (eV 2) (eK (.int 1)))) aNil))) (aCons (eN pLst (aCons (eNd 0 B_Ratio___init__ [] (aCons (eB (oP pIx) (eV 3) (eK (.int 0))) (aCons (eB (oP pMul) (eK (.int 2)) (eB (oP pIx) (eV 3) (eK (.int 1)))) aNil))) aNil)) aNil)))))
def B__law_lit : Beh := mkB 2 4 [] b__law_lit
/-- _law_ages_right -/
abbrev s34 : Stmt := (top 63)
def d34 : DefZ := ⟨.glo ("_law_ages_right" : PySem.Str), ("_law_ages_right" : PySem.Str), ("_law_ages_right" : PySem.Str), defArgs s34, defBody s34, defScope s34, []⟩
def N34 : List Str := [("_law_pen_here" : PySem.Str), ("_law_parts_here" : PySem.Str), ("_law_tour_here" : PySem.Str), ("_law_lights_here" : PySem.Str), ("_law_turn" : PySem.Str), ("_law_at" : PySem.Str), ("_law_share" : PySem.Str), ("_law_ratio" : PySem.Str), ("_law_beats" : PySem.Str), ("_law_age" : PySem.Str), ("_law_right" : PySem.Str), ("_law_left" : PySem.Str), ("_law_some" : PySem.Str)]
theorem sc34 : FnScope N34 [("_law_pen_here" : PySem.Str), ("_law_parts_here" : PySem.Str), ("_law_tour_here" : PySem.Str)] (defScope s34) := ⟨rfl, rfl, rfl, by decide +kernel, rfl, by decide +kernel, by decide +kernel⟩
def b__law_ages_right : M Fl := (sSeq (sAs 3 (eCd B__law_lights [] (aCons (eV 1) aNil))) (sSeq (sFor (itN pRng (aCons (eK (.int 3)) aNil)) (gN 4) (sSeq (sPar [gN 5, gN 6] (aCons (eCo B__law_draw 0 (aCons (eN pLen (aCons (eV 1) aNil)) aNil)) (aCons (eN pTup (aCons (eCo B__law_draw 0 (aCons (eK (.int 7)) aNil)) (aCons (eK (.int 6)) aNil))) aNil))) (sSeq (sTg (gT [(gT [(gN 7), (gN 8)]), (gT [(gN 9), (gN 10), (gN 11)])]) (eN pTup (aCons (eB (oP pIx) (eV 1) (eV 5)) (aCons (eB (oP pIx) (eV 3) (eV 5)) aNil)))) (sSeq (sAs 12 (eN pTup (aCons (eB (oP pMul) (eB (oP pIx) (eV 8) (eK (.int 0))) (eB (oP pIx) (eV 6) (eK (.int 0)))) (aCons (eB (oP pMul) (eB (oP pIx) (eV 8) (eK (.int 1))) (eB (oP pIx) (eV 6) (eK (.int 1)))) aNil)))) (sSeq (sAs 10 (eCd B__law_plus [] (aCons (eV 10) (aCons (eN pTup (aCons (eB (oP pMul) (eB (oP pIx) (eV 12) (eK (.int 0))) (eB (oP pIx) (eV 7) (eK (.int 1)))) (aCons (eB (oP pMul) (eB (oP pIx) (eV 12) (eK (.int 1))) (eB (oP pIx) (eV 7) (eK (.int 0)))) aNil))) aNil)))) (sSeq (sAs 11 (eCd B__law_plus [] (aCons (eV 11) (aCons (eN pTup (aCons (eB (oP pMul) (eB (oP pIx) (eV 12) (eK (.int 0))) (eB (oP pIx) (eV 7) (eK (.int 0)))) (aCons (eB (oP pMul) (eB (oP pIx) (eV 12) (eK (.int 1))) (eB (oP pIx) (eV 7) (eK (.int 1)))) aNil))) aNil)))) (sSeq (sAs 9 (eCd B__law_plus [] (aCons (eV 9) (aCons (eV 12) aNil)))) (sIf (tV (eB (oNW [(1, B_Step___eq__)] ["int"] [0, 1, 2] pNe) (eCk B_spot_at 0 2 [1, 0] [] aNil (aCons (eNd 0 B_Ratio___init__ [] (aCons (eB (oP pIx) (eV 9) (eK (.int 0))) (aCons (eB (oP pIx) (eV 9) (eK (.int 1))) aNil))) (aCons (eV 2) aNil))) (eCd B__law_lit [] (aCons (eV 10) (aCons (eV 11) aNil))))) (sRet (eK (.bl false))) sNil)))))))) (sRet (eAnd (eB (oET [(1, B_Step___eq__)] ["int"] [0, 1, 2]) (eCd B_spot_at [] (aCons (eV 2) (aCons (eK (.int 0)) aNil))) (eNd 1 B_Step___init__ [] (aCons (eK (.int 0)) (aCons (eN pLst (aCons (eK (.int 0)) aNil)) aNil)))) (eB (oET [(1, B_Step___eq__)] ["int"] [0, 1, 2]) (eCd B_spot_at [] (aCons (eV 2) (aCons (eFl [(2, 2)] (eV 2)) aNil))) (eFl [(2, 3)] (eV 2)))))))
def B__law_ages_right : Beh := mkB 3 13 [0] b__law_ages_right
/-- need_step -/
abbrev s35 : Stmt := (top 30)
def d35 : DefZ := ⟨.glo ("need_step" : PySem.Str), ("need_step" : PySem.Str), ("need_step" : PySem.Str), defArgs s35, defBody s35, defScope s35, []⟩
def N35 : List Str := [("value" : PySem.Str), ("part" : PySem.Str)]
theorem sc35 : FnScope N35 [("value" : PySem.Str), ("part" : PySem.Str)] (defScope s35) := ⟨rfl, rfl, rfl, by decide +kernel, rfl, by decide +kernel, by decide +kernel⟩
def b_need_step : M Fl := (sIf (tNo (tV (eIsi (kO [(0, false), (1, true), (2, false)]) (eV 0)))) sNo sNil)
def B_need_step : Beh := mkB 2 2 [] b_need_step
/-- age_of_light -/
abbrev s36 : Stmt := (top 47)
def d36 : DefZ := ⟨.glo ("age_of_light" : PySem.Str), ("age_of_light" : PySem.Str), ("age_of_light" : PySem.Str), defArgs s36, defBody s36, defScope s36, []⟩
def N36 : List Str := [("tour" : PySem.Str), ("side" : PySem.Str), ("light" : PySem.Str), ("lights" : PySem.Str), ("at" : PySem.Str), ("part" : PySem.Str), ("apart" : PySem.Str)]
theorem sc36 : FnScope N36 [("tour" : PySem.Str), ("side" : PySem.Str), ("light" : PySem.Str)] (defScope s36) := ⟨rfl, rfl, rfl, by decide +kernel, rfl, by decide +kernel, by decide +kernel⟩
def b_age_of_light : M Fl := (sSeq (sAs 3 (eCd B_lights_along [] (aCons (eFl [(2, 0)] (eV 0)) aNil))) (sSeq (sIf (tNo (tV (eMd [(0, B_Ratio_is_below)] [] (eB (oP pIx) (eB (oP pIx) (eV 3) (eK (.int 0))) (eV 1)) (aCons (eV 2) aNil)))) (sRet (eNd 0 B_Ratio___init__ [.int (1)] (aCons (eK (.int 0)) aNil))) sNil) (sSeq (sFor (itN pEnt (aCons (eFl [(2, 0)] (eV 0)) aNil)) (gT [(gN 4), (gN 5)]) (sIf (tNo (tV (eMd [(0, B_Ratio_is_below)] [] (eB (oP pIx) (eB (oP pIx) (eV 3) (eB (oW [(0, B_Ratio___add__)] ["int"] [0, 1] pAdd) (eV 4) (eK (.int 1)))) (eV 1)) (aCons (eV 2) aNil)))) (sSeq (sAs 6 (eB (oW [(0, B_Ratio___sub__)] ["int"] [0, 1] pSub) (eV 2) (eB (oP pIx) (eB (oP pIx) (eV 3) (eV 4)) (eV 1)))) (sRet (eB (oW [(0, B_Ratio___add__)] ["int"] [0, 1] pAdd) (eB (oP pIx) (eB (oP pIx) (eV 3) (eV 4)) (eK (.int 0))) (eIf (tV (eB (oP pEq) (eV 1) (eK (.int 1)))) (eB (oW [(0, B_Ratio___mul__)] ["int"] [0, 1] pMul) (eV 6) (eB (oP pIx) (eV 5) (eK (.int 0)))) (eMd [(0, B_Ratio_over)] [] (eV 6) (aCons (eB (oP pIx) (eV 5) (eK (.int 0))) aNil)))))) sNil)) (sRet (eK .non)))))
def B_age_of_light : Beh := mkB 3 7 [] b_age_of_light
/-- age_of_news -/
abbrev s37 : Stmt := (top 50)
def d37 : DefZ := ⟨.glo ("age_of_news" : PySem.Str), ("age_of_news" : PySem.Str), ("age_of_news" : PySem.Str), defArgs s37, defBody s37, defScope s37, []⟩
def N37 : List Str := [("tour" : PySem.Str), ("step" : PySem.Str), ("right" : PySem.Str), ("left" : PySem.Str)]
theorem sc37 : FnScope N37 [("tour" : PySem.Str), ("step" : PySem.Str)] (defScope s37) := ⟨rfl, rfl, rfl, by decide +kernel, rfl, by decide +kernel, by decide +kernel⟩
def b_age_of_news : M Fl := (sSeq (sEx (eCd B_need_tour [] (aCons (eV 0) (aCons (eK (.str "tour")) aNil)))) (sSeq (sEx (eCd B_need_step [] (aCons (eV 1) (aCons (eK (.str "step")) aNil)))) (sSeq (sIf (tV (eB (oP pNe) (eFl [(1, 2)] (eV 1)) (eK (.int 1)))) sNo sNil) (sSeq (sAs 2 (eCd B_age_of_light [] (aCons (eV 0) (aCons (eK (.int 1)) (aCons (eB (oW [(0, B_Ratio___sub__)] ["int"] [0, 1] pSub) (eFl [(1, 0)] (eV 1)) (eB (oP pIx) (eFl [(1, 1)] (eV 1)) (eK (.int 0)))) aNil))))) (sSeq (sAs 3 (eCd B_age_of_light [] (aCons (eV 0) (aCons (eK (.int 2)) (aCons (eB (oW [(0, B_Ratio___add__)] ["int"] [0, 1] pAdd) (eFl [(1, 0)] (eV 1)) (eB (oP pIx) (eFl [(1, 1)] (eV 1)) (eK (.int 0)))) aNil))))) (sSeq (sIf (tOn (tV (eIsN (eV 2))) (tV (eIsN (eV 3)))) (sRet (eK .non)) sNil) (sRet (eIf (tV (eMd [(0, B_Ratio_is_below)] [] (eV 2) (aCons (eV 3) aNil))) (eV 3) (eV 2)))))))))
def B_age_of_news : Beh := mkB 2 4 [] b_age_of_news
/-- _law_is_less -/
abbrev s38 : Stmt := (top 60)
def d38 : DefZ := ⟨.glo ("_law_is_less" : PySem.Str), ("_law_is_less" : PySem.Str), ("_law_is_less" : PySem.Str), defArgs s38, defBody s38, defScope s38, []⟩
def N38 : List Str := [("_law_one" : PySem.Str), ("_law_other" : PySem.Str)]
theorem sc38 : FnScope N38 [("_law_one" : PySem.Str), ("_law_other" : PySem.Str)] (defScope s38) := ⟨rfl, rfl, rfl, by decide +kernel, rfl, by decide +kernel, by decide +kernel⟩
def b__law_is_less : M Fl := (sRet (eB (oP pLt) (eB (oP pMul) (eB (oP pIx) (eV 0) (eK (.int 0))) (eB (oP pIx) (eV 1) (eK (.int 1)))) (eB (oP pMul) (eB (oP pIx) (eV 1) (eK (.int 0))) (eB (oP pIx) (eV 0) (eK (.int 1))))))
def B__law_is_less : Beh := mkB 2 2 [] b__law_is_less
/-- _law_news_right -/
abbrev s39 : Stmt := (top 64)
def d39 : DefZ := ⟨.glo ("_law_news_right" : PySem.Str), ("_law_news_right" : PySem.Str), ("_law_news_right" : PySem.Str), defArgs s39, defBody s39, defScope s39, []⟩
def N39 : List Str := [("_law_pen_here" : PySem.Str), ("_law_parts_here" : PySem.Str), ("_law_tour_here" : PySem.Str), ("_law_end" : PySem.Str), ("_law_turn" : PySem.Str), ("_law_far" : PySem.Str), ("_law_bottom" : PySem.Str), ("_law_right" : PySem.Str), ("_law_left" : PySem.Str), ("_law_spot" : PySem.Str), ("_law_found" : PySem.Str), ("_law_there" : PySem.Str), ("_law_due" : PySem.Str), ("_law_here" : PySem.Str), ("_law_ratio" : PySem.Str), ("_law_beats" : PySem.Str)]
theorem sc39 : FnScope N39 [("_law_pen_here" : PySem.Str), ("_law_parts_here" : PySem.Str), ("_law_tour_here" : PySem.Str)] (defScope s39) := ⟨rfl, rfl, rfl, by decide +kernel, rfl, by decide +kernel, by decide +kernel⟩
def b__law_news_right : M Fl := (sSeq (sAs 3 (eB (oP pIx) (eCd B__law_lights [] (aCons (eV 1) aNil)) (eU (oU pNeg) (eK (.int 1))))) (sSeq (sFor (itN pRng (aCons (eK (.int 4)) aNil)) (gN 4) (sSeq (sPar [gN 5, gN 6] (aCons (eCo B__law_pick 0 (aCons (eN pLst (aCons (eK (.int 12)) (aCons (eK (.int 90)) (aCons (eK (.int 900)) aNil)))) aNil)) (aCons (eB (oW [(0, B_Ratio___add__)] ["int"] [0, 1] pAdd) (eK (.int 1)) (eCo B__law_draw 0 (aCons (eK (.int 6)) aNil))) aNil))) (sSeq (sPar [gN 7, gN 8] (aCons (eN pTup (aCons (eB (oW [(0, B_Ratio___sub__)] ["int"] [0, 1] pSub) (eCo B__law_draw 0 (aCons (eV 5) aNil)) (eB (oP pDiv) (eV 5) (eK (.int 6)))) (aCons (eV 6) aNil))) (aCons (eN pTup (aCons (eB (oW [(0, B_Ratio___sub__)] ["int"] [0, 1] pSub) (eCo B__law_draw 0 (aCons (eV 5) aNil)) (eB (oP pDiv) (eV 5) (eK (.int 6)))) (aCons (eV 6) aNil))) aNil))) (sSeq (sAs 9 (eCo B__law_pick 0 (aCons (eCd B__law_lights [] (aCons (eV 1) aNil)) aNil))) (sSeq (sIf (tAn (tV (eB (oP pLt) (eN pLen (aCons (eV 1) aNil)) (eK (.int 3)))) (tV (eB (oP pLt) (eN pMax1 (aCons (eLc [14, 15] (itL (eV 1)) (gT [(gN 14), (gN 15)]) tY (eB (oW [(0, B_Ratio___add__)] ["int"] [0, 1] pAdd) (eB (oP pIx) (eV 14) (eK (.int 0))) (eB (oP pIx) (eV 14) (eK (.int 1))))) aNil)) (eK (.int 19))))) (sPar [gN 7, gN 8] (aCons (eCo B__law_pick 0 (aCons (eN pLst (aCons (eB (oP pIx) (eV 9) (eK (.int 1))) (aCons (eV 7) aNil))) aNil)) (aCons (eCo B__law_pick 0 (aCons (eN pLst (aCons (eB (oP pIx) (eV 9) (eK (.int 2))) (aCons (eV 8) aNil))) aNil)) aNil))) sNil) (sSeq (sAs 10 (eCk B_age_of_news 0 2 [1, 0] [] aNil (aCons (eCd B__law_lit [] (aCons (eV 7) (aCons (eV 8) aNil))) (aCons (eV 2) aNil)))) (sSeq (sIf (tOn (tV (eCd B__law_is_less [] (aCons (eB (oP pIx) (eV 3) (eK (.int 1))) (aCons (eV 7) aNil)))) (tV (eCd B__law_is_less [] (aCons (eB (oP pIx) (eV 3) (eK (.int 2))) (aCons (eV 8) aNil))))) (sSeq (sIf (tV (eNotN (eV 10))) (sRet (eK (.bl false))) sNil) sCt) sNil) (sSeq (sIf (tOn (tV (eIsN (eV 10))) (tOn (tNo (tV (eIsi (kO [(0, true), (1, false), (2, false)]) (eV 10)))) (tV (eB (oP pLt) (ePr [(0, B_Ratio_sign)] (eV 10)) (eK (.int 0)))))) (sRet (eK (.bl false))) sNil) (sSeq (sIf (tAn (tV (eB (oP pLe) (eB (oP pIx) (eV 7) (eK (.int 0))) (eK (.int 0)))) (tV (eB (oP pLe) (eB (oP pIx) (eV 8) (eK (.int 0))) (eK (.int 0))))) (sSeq (sIf (tV (eB (oNW [(0, B_Ratio___eq__)] ["int"] [0, 1, 2] pNe) (eV 10) (eK (.int 0)))) (sRet (eK (.bl false))) sNil) sCt) sNil) (sSeq (sPar [gN 11, gN 12] (aCons (eCd B_spot_at [] (aCons (eV 2) (aCons (eV 10) aNil))) (aCons (eN pTup (aCons (eNd 0 B_Ratio___init__ [] (aCons (eB (oP pIx) (eV 7) (eK (.int 0))) (aCons (eB (oP pIx) (eV 7) (eK (.int 1))) aNil))) (aCons (eNd 0 B_Ratio___init__ [] (aCons (eB (oP pIx) (eV 8) (eK (.int 0))) (aCons (eB (oP pIx) (eV 8) (eK (.int 1))) aNil))) aNil))) aNil))) (sSeq (sAs 13 (eN pTup (aCons (eB (oW [(0, B_Ratio___sub__)] ["int"] [0, 1] pSub) (eFl [(1, 0)] (eV 11)) (eB (oP pIx) (eFl [(1, 1)] (eV 11)) (eK (.int 0)))) (aCons (eB (oW [(0, B_Ratio___add__)] ["int"] [0, 1] pAdd) (eFl [(1, 0)] (eV 11)) (eB (oP pIx) (eFl [(1, 1)] (eV 11)) (eK (.int 0)))) aNil)))) (sIf (tOn (tV (eMd [(0, B_Ratio_is_below)] [] (eB (oP pIx) (eV 13) (eK (.int 0))) (aCons (eB (oP pIx) (eV 12) (eK (.int 0))) aNil))) (tOn (tV (eMd [(0, B_Ratio_is_below)] [] (eB (oP pIx) (eV 13) (eK (.int 1))) (aCons (eB (oP pIx) (eV 12) (eK (.int 1))) aNil))) (tAn (tV (eB (oNW [(0, B_Ratio___eq__)] ["int"] [0, 1, 2] pNe) (eB (oP pIx) (eV 13) (eK (.int 0))) (eB (oP pIx) (eV 12) (eK (.int 0))))) (tV (eB (oNW [(0, B_Ratio___eq__)] ["int"] [0, 1, 2] pNe) (eB (oP pIx) (eV 13) (eK (.int 1))) (eB (oP pIx) (eV 12) (eK (.int 1)))))))) (sRet (eK (.bl false))) sNil)))))))))))) (sRet (eK (.bl true)))))
def B__law_news_right : Beh := mkB 3 16 [0] b__law_news_right
/-- need_axes -/
abbrev s40 : Stmt := (top 31)
def d40 : DefZ := ⟨.glo ("need_axes" : PySem.Str), ("need_axes" : PySem.Str), ("need_axes" : PySem.Str), defArgs s40, defBody s40, defScope s40, []⟩
def N40 : List Str := [("one" : PySem.Str), ("other" : PySem.Str)]
theorem sc40 : FnScope N40 [("one" : PySem.Str), ("other" : PySem.Str)] (defScope s40) := ⟨rfl, rfl, rfl, by decide +kernel, rfl, by decide +kernel, by decide +kernel⟩
def b_need_axes : M Fl := (sIf (tV (eB (oP pNe) (eFl [(1, 2)] (eV 0)) (eFl [(1, 2)] (eV 1)))) sNo sNil)
def B_need_axes : Beh := mkB 2 2 [] b_need_axes
/-- Step.__add__ -/
abbrev s41 : Stmt := ((C8.clsBody (top 36)).getD 3 (.Pass ⟨0, 0, 0, 0⟩))
def d41 : DefZ := ⟨.met ("Step" : PySem.Str) ("__add__" : PySem.Str), ("__add__" : PySem.Str), ("Step.__add__" : PySem.Str), defArgs s41, defBody s41, defScope s41, []⟩
def N41 : List Str := [("self" : PySem.Str), ("other" : PySem.Str), ("mine" : PySem.Str), ("its" : PySem.Str)]
theorem sc41 : FnScope N41 [("self" : PySem.Str), ("other" : PySem.Str)] (defScope s41) := ⟨rfl, rfl, rfl, by decide +kernel, rfl, by decide +kernel, by decide +kernel⟩
def b_Step___add__ : M Fl := (sSeq (sEx (eCd B_need_step [] (aCons (eV 1) (aCons (eK (.str "other")) aNil)))) (sSeq (sEx (eCd B_need_axes [] (aCons (eV 0) (aCons (eV 1) aNil)))) (sRet (eNd 1 B_Step___init__ [] (aCons (eB (oW [(0, B_Ratio___add__)] ["int"] [0, 1] pAdd) (eFl [(1, 0)] (eV 0)) (eFl [(1, 0)] (eV 1))) (aCons (eLc [2, 3] (itN pZip (aCons (eFl [(1, 1)] (eV 0)) (aCons (eFl [(1, 1)] (eV 1)) aNil))) (gT [(gN 2), (gN 3)]) tY (eB (oW [(0, B_Ratio___add__)] ["int"] [0, 1] pAdd) (eV 2) (eV 3))) aNil))))))
def B_Step___add__ : Beh := mkB 2 4 [] b_Step___add__
/-- Step.__neg__ -/
abbrev s42 : Stmt := ((C8.clsBody (top 36)).getD 6 (.Pass ⟨0, 0, 0, 0⟩))
def d42 : DefZ := ⟨.met ("Step" : PySem.Str) ("__neg__" : PySem.Str), ("__neg__" : PySem.Str), ("Step.__neg__" : PySem.Str), defArgs s42, defBody s42, defScope s42, []⟩
def N42 : List Str := [("self" : PySem.Str), ("each" : PySem.Str)]
theorem sc42 : FnScope N42 [("self" : PySem.Str)] (defScope s42) := ⟨rfl, rfl, rfl, by decide +kernel, rfl, by decide +kernel, by decide +kernel⟩
def b_Step___neg__ : M Fl := (sRet (eNd 1 B_Step___init__ [] (aCons (eU (oC1 [(0, B_Ratio___neg__)] pNeg) (eFl [(1, 0)] (eV 0))) (aCons (eLc [1] (itL (eFl [(1, 1)] (eV 0))) (gN 1) tY (eU (oC1 [(0, B_Ratio___neg__)] pNeg) (eV 1))) aNil))))
def B_Step___neg__ : Beh := mkB 1 2 [] b_Step___neg__
/-- Step.__sub__ -/
abbrev s43 : Stmt := ((C8.clsBody (top 36)).getD 4 (.Pass ⟨0, 0, 0, 0⟩))
def d43 : DefZ := ⟨.met ("Step" : PySem.Str) ("__sub__" : PySem.Str), ("__sub__" : PySem.Str), ("Step.__sub__" : PySem.Str), defArgs s43, defBody s43, defScope s43, []⟩
def N43 : List Str := [("self" : PySem.Str), ("other" : PySem.Str)]
theorem sc43 : FnScope N43 [("self" : PySem.Str), ("other" : PySem.Str)] (defScope s43) := ⟨rfl, rfl, rfl, by decide +kernel, rfl, by decide +kernel, by decide +kernel⟩
def b_Step___sub__ : M Fl := (sSeq (sEx (eCd B_need_step [] (aCons (eV 1) (aCons (eK (.str "other")) aNil)))) (sRet (eB (oW [(1, B_Step___add__)] ["int"] [0, 1] pAdd) (eV 0) (eU (oC1 [(1, B_Step___neg__)] pNeg) (eV 1)))))
def B_Step___sub__ : Beh := mkB 2 2 [] b_Step___sub__
/-- straight_square -/
abbrev s44 : Stmt := (top 48)
def d44 : DefZ := ⟨.glo ("straight_square" : PySem.Str), ("straight_square" : PySem.Str), ("straight_square" : PySem.Str), defArgs s44, defBody s44, defScope s44, []⟩
def N44 : List Str := [("tour" : PySem.Str)]
theorem sc44 : FnScope N44 [("tour" : PySem.Str)] (defScope s44) := ⟨rfl, rfl, rfl, by decide +kernel, rfl, by decide +kernel, by decide +kernel⟩
def b_straight_square : M Fl := (sSeq (sEx (eCd B_need_tour [] (aCons (eV 0) (aCons (eK (.str "tour")) aNil)))) (sRet (eFl [(1, 3)] (eFl [(2, 3)] (eV 0)))))
def B_straight_square : Beh := mkB 1 1 [] b_straight_square
/-- _law_sums_right -/
abbrev s45 : Stmt := (top 61)
def d45 : DefZ := ⟨.glo ("_law_sums_right" : PySem.Str), ("_law_sums_right" : PySem.Str), ("_law_sums_right" : PySem.Str), defArgs s45, defBody s45, defScope s45, []⟩
def N45 : List Str := [("_law_parts_here" : PySem.Str), ("_law_tour_here" : PySem.Str), ("_law_lights_here" : PySem.Str), ("_law_age" : PySem.Str), ("_law_right" : PySem.Str), ("_law_left" : PySem.Str), ("_law_is_one" : PySem.Str), ("_law_apart" : PySem.Str), ("_law_one" : PySem.Str), ("_law_at" : PySem.Str), ("_law_part" : PySem.Str)]
theorem sc45 : FnScope N45 [("_law_parts_here" : PySem.Str), ("_law_tour_here" : PySem.Str)] (defScope s45) := ⟨rfl, rfl, rfl, by decide +kernel, rfl, by decide +kernel, by decide +kernel⟩
def b__law_sums_right : M Fl := (sSeq (sAs 2 (eCd B__law_lights [] (aCons (eV 0) aNil))) (sSeq (sTg (gT [(gN 3), (gN 4), (gN 5)]) (eB (oP pIx) (eV 2) (eU (oU pNeg) (eK (.int 1))))) (sSeq (sIf (tOn (tNo (tV (eIsi (kT [0, 1, 2] "tuple") (eFl [(2, 1)] (eV 1))))) (tOn (tV (eB (oNY 0 [(0, B_Ratio___eq__), (1, B_Step___eq__)] ["int"] [0, 1, 2]) (eFl [(2, 1)] (eV 1)) (eN pTuple (aCons (eLc [8] (itL (eV 2)) (gN 8) tY (eCd B__law_lit [] (aCons (eB (oP pIx) (eV 8) (eK (.int 1))) (aCons (eB (oP pIx) (eV 8) (eK (.int 2))) aNil)))) aNil)))) (tV (eB (oNW [(0, B_Ratio___eq__), (1, B_Step___eq__)] ["int"] [0, 1, 2] pNe) (eFl [(2, 3)] (eV 1)) (eB (oP pIx) (eFl [(2, 1)] (eV 1)) (eU (oU pNeg) (eK (.int 1)))))))) (sRet (eK (.bl false))) sNil) (sSeq (sIf (tOn (tV (eB (oNW [(0, B_Ratio___eq__), (1, B_Step___eq__)] ["int"] [0, 1, 2] pNe) (eFl [(2, 2)] (eV 1)) (eNd 0 B_Ratio___init__ [] (aCons (eB (oP pIx) (eV 3) (eK (.int 0))) (aCons (eB (oP pIx) (eV 3) (eK (.int 1))) aNil))))) (tV (eB (oNW [(0, B_Ratio___eq__), (1, B_Step___eq__)] ["int"] [0, 1, 2] pNe) (eCk B_straight_square 0 1 [0] [] aNil (aCons (eV 1) aNil)) (eNd 0 B_Ratio___init__ [] (aCons (eB (oW [(0, B_Ratio___mul__)] ["int"] [0, 1] pMul) (eB (oP pIx) (eV 4) (eK (.int 0))) (eB (oP pIx) (eV 5) (eK (.int 0)))) (aCons (eB (oW [(0, B_Ratio___mul__)] ["int"] [0, 1] pMul) (eB (oP pIx) (eV 4) (eK (.int 1))) (eB (oP pIx) (eV 5) (eK (.int 1)))) aNil)))))) (sRet (eK (.bl false))) sNil) (sSeq (sIf (tV (eB (oNW [(0, B_Ratio___eq__), (1, B_Step___eq__)] ["int"] [0, 1, 2] pNe) (eLc [9] (itN pRng (aCons (eN pLen (aCons (eV 0) aNil)) aNil)) (gN 9) (tV (eB (oNW [(0, B_Ratio___eq__), (1, B_Step___eq__)] ["int"] [0, 1, 2] pNe) (eFl [(1, 4)] (eB (oW [(1, B_Step___sub__), (0, B_Ratio___sub__)] ["int"] [0, 1] pSub) (eB (oP pIx) (eFl [(2, 1)] (eV 1)) (eB (oP pAdd) (eV 9) (eK (.int 1)))) (eB (oP pIx) (eFl [(2, 1)] (eV 1)) (eV 9)))) (eK (.str "forward")))) (eV 9)) (eN pLst aNil))) (sRet (eK (.bl false))) sNil) (sSeq (sAs 6 (eB (oP pEq) (eLc [10] (itL (eV 0)) (gN 10) (tV (eB (oNW [(0, B_Ratio___eq__), (1, B_Step___eq__)] ["int"] [0, 1, 2] pNe) (eB (oW [(0, B_Ratio___mul__)] ["int"] [0, 1] pMul) (eB (oP pIx) (eB (oP pIx) (eV 10) (eK (.int 0))) (eK (.int 0))) (eB (oP pIx) (eB (oP pIx) (eB (oP pIx) (eV 0) (eK (.int 0))) (eK (.int 0))) (eK (.int 1)))) (eB (oW [(0, B_Ratio___mul__)] ["int"] [0, 1] pMul) (eB (oP pIx) (eB (oP pIx) (eB (oP pIx) (eV 0) (eK (.int 0))) (eK (.int 0))) (eK (.int 0))) (eB (oP pIx) (eB (oP pIx) (eV 10) (eK (.int 0))) (eK (.int 1)))))) (eV 10)) (eN pLst aNil))) (sSeq (sAs 7 (eB (oW [(1, B_Step___sub__), (0, B_Ratio___sub__)] ["int"] [0, 1] pSub) (eCd B_straight_square [] (aCons (eV 1) aNil)) (eB (oW [(0, B_Ratio___mul__)] ["int"] [0, 1] pMul) (eFl [(2, 2)] (eV 1)) (eFl [(2, 2)] (eV 1))))) (sRet (eB (oP pEq) (ePr [(0, B_Ratio_sign)] (eV 7)) (eIf (tV (eV 6)) (eK (.int 0)) (eK (.int 1))))))))))))
def B__law_sums_right : Beh := mkB 2 11 [] b__law_sums_right
/-- Tour.joined -/
abbrev s46 : Stmt := ((C8.clsBody (top 42)).getD 2 (.Pass ⟨0, 0, 0, 0⟩))
def d46 : DefZ := ⟨.met ("Tour" : PySem.Str) ("joined" : PySem.Str), ("joined" : PySem.Str), ("Tour.joined" : PySem.Str), defArgs s46, defBody s46, defScope s46, []⟩
def N46 : List Str := [("self" : PySem.Str), ("other" : PySem.Str)]
theorem sc46 : FnScope N46 [("self" : PySem.Str), ("other" : PySem.Str)] (defScope s46) := ⟨rfl, rfl, rfl, by decide +kernel, rfl, by decide +kernel, by decide +kernel⟩
def b_Tour_joined : M Fl := (sSeq (sEx (eCd B_need_tour [] (aCons (eV 1) (aCons (eK (.str "other")) aNil)))) (sRet (eNd 2 B_Tour___init__ [] (aCons (eB (oP pAdd) (eFl [(2, 0)] (eV 0)) (eFl [(2, 0)] (eV 1))) aNil))))
def B_Tour_joined : Beh := mkB 2 2 [] b_Tour_joined
/-- Tour.__eq__ -/
abbrev s47 : Stmt := ((C8.clsBody (top 42)).getD 3 (.Pass ⟨0, 0, 0, 0⟩))
def d47 : DefZ := ⟨.met ("Tour" : PySem.Str) ("__eq__" : PySem.Str), ("__eq__" : PySem.Str), ("Tour.__eq__" : PySem.Str), defArgs s47, defBody s47, defScope s47, []⟩
def N47 : List Str := [("self" : PySem.Str), ("other" : PySem.Str)]
theorem sc47 : FnScope N47 [("self" : PySem.Str), ("other" : PySem.Str)] (defScope s47) := ⟨rfl, rfl, rfl, by decide +kernel, rfl, by decide +kernel, by decide +kernel⟩
def b_Tour___eq__ : M Fl := (sRet (eAnd (eIsi (kO [(0, false), (1, false), (2, true)]) (eV 1)) (eB (oEY 1 [(0, B_Ratio___eq__)] ["int"] [0, 1, 2]) (eFl [(2, 0)] (eV 0)) (eFl [(2, 0)] (eV 1)))))
def B_Tour___eq__ : Beh := mkB 2 2 [] b_Tour___eq__
/-- _law_kin_right -/
abbrev s48 : Stmt := (top 62)
def d48 : DefZ := ⟨.glo ("_law_kin_right" : PySem.Str), ("_law_kin_right" : PySem.Str), ("_law_kin_right" : PySem.Str), defArgs s48, defBody s48, defScope s48, []⟩
def N48 : List Str := [("_law_pen_here" : PySem.Str), ("_law_parts_here" : PySem.Str), ("_law_tour_here" : PySem.Str), ("_law_back" : PySem.Str), ("_law_more" : PySem.Str), ("_law_other" : PySem.Str), ("_law_both" : PySem.Str), ("_law_k" : PySem.Str), ("_law_m" : PySem.Str), ("_law_seen" : PySem.Str), ("_law_ratio" : PySem.Str), ("_law_beats" : PySem.Str)]
theorem sc48 : FnScope N48 [("_law_pen_here" : PySem.Str), ("_law_parts_here" : PySem.Str), ("_law_tour_here" : PySem.Str)] (defScope s48) := ⟨rfl, rfl, rfl, by decide +kernel, rfl, by decide +kernel, by decide +kernel⟩
def b__law_kin_right : M Fl := (sSeq (sPar [gN 3, gN 4] (aCons (eCd B__law_tour [] (aCons (eRev (eV 1) (eU (oU pNeg) (eK (.int 1)))) aNil)) (aCons (eCo B__law_parts 0 (aCons (eK (.int 5)) aNil)) aNil))) (sSeq (sIf (tOn (tV (eB (oNY 0 [(0, B_Ratio___eq__), (1, B_Step___eq__), (2, B_Tour___eq__)] ["int"] [0, 1, 2]) (eN pTup (aCons (eFl [(2, 2)] (eV 3)) (aCons (eFl [(2, 3)] (eV 3)) aNil))) (eN pTup (aCons (eFl [(2, 2)] (eV 2)) (aCons (eFl [(2, 3)] (eV 2)) aNil))))) (tV (eB (oNW [(0, B_Ratio___eq__), (1, B_Step___eq__), (2, B_Tour___eq__)] ["int"] [0, 1, 2] pNe) (eB (oET [(0, B_Ratio___eq__), (1, B_Step___eq__), (2, B_Tour___eq__)] ["int"] [0, 1, 2]) (eV 3) (eV 2)) (eB (oEY 1 [(0, B_Ratio___eq__), (1, B_Step___eq__), (2, B_Tour___eq__)] ["int"] [0, 1, 2]) (eFl [(2, 0)] (eV 3)) (eFl [(2, 0)] (eV 2)))))) (sRet (eK (.bl false))) sNil) (sSeq (sAs 5 (eCd B__law_tour [] (aCons (eV 4) aNil))) (sSeq (sAs 6 (eMk [(2, B_Tour_joined)] 0 1 [0] [] (eV 2) aNil (aCons (eV 5) aNil))) (sSeq (sIf (tOn (tV (eB (oNW [(0, B_Ratio___eq__), (1, B_Step___eq__), (2, B_Tour___eq__)] ["int"] [0, 1, 2] pNe) (eV 6) (eCd B__law_tour [] (aCons (eB (oW [(0, B_Ratio___add__), (1, B_Step___add__)] ["int"] [0, 1] pAdd) (eV 1) (eV 4)) aNil)))) (tOn (tV (eB (oNW [(0, B_Ratio___eq__), (1, B_Step___eq__), (2, B_Tour___eq__)] ["int"] [0, 1, 2] pNe) (eFl [(2, 2)] (eV 6)) (eB (oW [(0, B_Ratio___add__), (1, B_Step___add__)] ["int"] [0, 1] pAdd) (eFl [(2, 2)] (eV 2)) (eFl [(2, 2)] (eV 5))))) (tV (eB (oNW [(0, B_Ratio___eq__), (1, B_Step___eq__), (2, B_Tour___eq__)] ["int"] [0, 1, 2] pNe) (eFl [(2, 3)] (eV 6)) (eB (oW [(0, B_Ratio___add__), (1, B_Step___add__)] ["int"] [0, 1] pAdd) (eFl [(2, 3)] (eV 2)) (eFl [(2, 3)] (eV 5))))))) (sRet (eK (.bl false))) sNil) (sSeq (sTg (gT [(gN 7), (gN 8)]) (eN pTup (aCons (eB (oW [(0, B_Ratio___add__), (1, B_Step___add__)] ["int"] [0, 1] pAdd) (eK (.int 1)) (eCo B__law_draw 0 (aCons (eK (.int 9)) aNil))) (aCons (eB (oW [(0, B_Ratio___add__), (1, B_Step___add__)] ["int"] [0, 1] pAdd) (eK (.int 1)) (eCo B__law_draw 0 (aCons (eK (.int 9)) aNil))) aNil)))) (sSeq (sAs 9 (eCd B__law_tour [] (aCons (eLc [10, 11] (itL (eV 1)) (gT [(gN 10), (gN 11)]) tY (eN pTup (aCons (eN pTup (aCons (eB (oW [(0, B_Ratio___mul__)] ["int"] [0, 1] pMul) (eB (oP pIx) (eV 10) (eK (.int 0))) (eV 8)) (aCons (eB (oW [(0, B_Ratio___mul__)] ["int"] [0, 1] pMul) (eB (oP pIx) (eV 10) (eK (.int 1))) (eV 7)) aNil))) (aCons (eV 11) aNil)))) aNil))) (sSeq (sIf (tOn (tV (eB (oNW [(0, B_Ratio___eq__), (1, B_Step___eq__), (2, B_Tour___eq__)] ["int"] [0, 1, 2] pNe) (eFl [(2, 2)] (eV 9)) (eFl [(2, 2)] (eV 2)))) (tV (eB (oNW [(0, B_Ratio___eq__), (1, B_Step___eq__), (2, B_Tour___eq__)] ["int"] [0, 1, 2] pNe) (eCd B_straight_square [] (aCons (eV 9) aNil)) (eCd B_straight_square [] (aCons (eV 2) aNil))))) (sRet (eK (.bl false))) sNil) (sRet (eB (oET [(0, B_Ratio___eq__), (1, B_Step___eq__), (2, B_Tour___eq__)] ["int"] [0, 1, 2]) (eB (oW [(0, B_Ratio___sub__)] ["int"] [0, 1] pSub) (eFl [(1, 0)] (eFl [(2, 3)] (eV 9))) (eB (oP pIx) (eFl [(1, 1)] (eFl [(2, 3)] (eV 9))) (eK (.int 0)))) (eB (oW [(0, B_Ratio___mul__)] ["int"] [0, 1] pMul) (eB (oW [(0, B_Ratio___sub__)] ["int"] [0, 1] pSub) (eFl [(1, 0)] (eFl [(2, 3)] (eV 2))) (eB (oP pIx) (eFl [(1, 1)] (eFl [(2, 3)] (eV 2))) (eK (.int 0)))) (eNd 0 B_Ratio___init__ [] (aCons (eV 7) (aCons (eV 8) aNil))))))))))))))
def B__law_kin_right : Beh := mkB 3 12 [0] b__law_kin_right
/-- law -/
abbrev s49 : Stmt := (top 65)
def d49 : DefZ := ⟨.glo ("law" : PySem.Str), ("law" : PySem.Str), ("law" : PySem.Str), defArgs s49, defBody s49, defScope s49, []⟩
def N49 : List Str := [("_law_script" : PySem.Str), ("_law_pen_here" : PySem.Str), ("_law_parts_here" : PySem.Str), ("_law_tour_here" : PySem.Str)]
theorem sc49 : FnScope N49 [("_law_script" : PySem.Str)] (defScope s49) := ⟨rfl, rfl, rfl, by decide +kernel, rfl, by decide +kernel, by decide +kernel⟩
def b_law : M Fl := (sSeq (sAsF 1 (eCd B__law_pen [] (aCons (eV 0) aNil))) (sSeq (sAs 2 (eCo B__law_parts 1 (aCons (eK (.int 7)) aNil))) (sSeq (sAs 3 (eCd B__law_tour [] (aCons (eV 2) aNil))) (sSeq (sIf (tOn (tNo (tV (eCd B__law_sums_right [] (aCons (eV 2) (aCons (eV 3) aNil))))) (tNo (tV (eCo B__law_kin_right 1 (aCons (eV 2) (aCons (eV 3) aNil)))))) (sRet (eK (.bl false))) sNil) (sRet (eAnd (eCo B__law_ages_right 1 (aCons (eV 2) (aCons (eV 3) aNil))) (eCo B__law_news_right 1 (aCons (eV 2) (aCons (eV 3) aNil)))))))))
def B_law : Beh := mkB 1 4 [] b_law
end Kw

namespace Kw
open PySem PySem.Spec PyProof.Rows L2 Z
def fz : List Fz := [fFree ("int" : PySem.Str),
  fFree ("len" : PySem.Str),
  fFree ("abs" : PySem.Str),
  fGlo ("_law_draw" : PySem.Str),
  fGlo ("_law_pick" : PySem.Str),
  fFree ("range" : PySem.Str),
  fFree ("isinstance" : PySem.Str),
  fKiT ("Tour" : PySem.Str) "int",
  fKiT ("Step" : PySem.Str) "int",
  fKiT ("Ratio" : PySem.Str) "int",
  fFree ("bool" : PySem.Str),
  fKiT ("Tour" : PySem.Str) "bool",
  fKiT ("Step" : PySem.Str) "bool",
  fKiT ("Ratio" : PySem.Str) "bool",
  fGlo ("is_integer" : PySem.Str),
  fBlt ("gcd" : PySem.Str) "math.gcd",
  fKiO ("Tour" : PySem.Str) ("Ratio" : PySem.Str) false,
  fKiO ("Step" : PySem.Str) ("Ratio" : PySem.Str) false,
  fKiO ("Ratio" : PySem.Str) ("Ratio" : PySem.Str) true,
  fGlo ("Ratio" : PySem.Str),
  fKiB ("Ratio" : PySem.Str),
  fMk ("Ratio" : PySem.Str),
  fGlo ("ratio_from" : PySem.Str),
  fBiT ("Ratio" : PySem.Str) ("__add__" : PySem.Str) ("__radd__" : PySem.Str) "int",
  fSub ("Ratio" : PySem.Str) ("Step" : PySem.Str),
  fSf ("Step" : PySem.Str),
  fMet ("Step" : PySem.Str) ("__add__" : PySem.Str),
  fRd ("Step" : PySem.Str) ("__radd__" : PySem.Str),
  fMet ("Ratio" : PySem.Str) ("__add__" : PySem.Str),
  fSf ("Ratio" : PySem.Str),
  fRd ("Ratio" : PySem.Str) ("__radd__" : PySem.Str),
  fMet ("Ratio" : PySem.Str) ("over" : PySem.Str),
  fBiT ("Ratio" : PySem.Str) ("__mul__" : PySem.Str) ("__rmul__" : PySem.Str) "int",
  fMet ("Step" : PySem.Str) ("__mul__" : PySem.Str),
  fRd ("Step" : PySem.Str) ("__rmul__" : PySem.Str),
  fMet ("Ratio" : PySem.Str) ("__mul__" : PySem.Str),
  fRd ("Ratio" : PySem.Str) ("__rmul__" : PySem.Str),
  fFree ("tuple" : PySem.Str),
  fKiT ("Tour" : PySem.Str) "tuple",
  fKiT ("Step" : PySem.Str) "tuple",
  fKiT ("Ratio" : PySem.Str) "tuple",
  fFree ("list" : PySem.Str),
  fKiT ("Tour" : PySem.Str) "list",
  fKiT ("Step" : PySem.Str) "list",
  fKiT ("Ratio" : PySem.Str) "list",
  fMet ("Ratio" : PySem.Str) ("__neg__" : PySem.Str),
  fGlo ("is_listed" : PySem.Str),
  fFree ("all" : PySem.Str),
  fGlo ("is_ratio" : PySem.Str),
  fGlo ("are_ratios" : PySem.Str),
  fGlo ("summed" : PySem.Str),
  fFree ("zip" : PySem.Str),
  fBiT ("Ratio" : PySem.Str) ("__sub__" : PySem.Str) ("__rsub__" : PySem.Str) "int",
  fMet ("Step" : PySem.Str) ("__sub__" : PySem.Str),
  fRd ("Step" : PySem.Str) ("__rsub__" : PySem.Str),
  fMet ("Ratio" : PySem.Str) ("__sub__" : PySem.Str),
  fRd ("Ratio" : PySem.Str) ("__rsub__" : PySem.Str),
  fPrp ("Ratio" : PySem.Str) ("sign" : PySem.Str),
  fInt ("MOST_AXES" : PySem.Str) (3),
  fSta ("Ratio" : PySem.Str) ("of" : PySem.Str),
  fGlo ("product_at" : PySem.Str),
  fGlo ("kind_by" : PySem.Str),
  fGlo ("Step" : PySem.Str),
  fMk ("Step" : PySem.Str),
  fGlo ("is_part" : PySem.Str),
  fInt ("MOST_PARTS" : PySem.Str) (12),
  fGlo ("lights_along" : PySem.Str),
  fGlo ("lit_spot" : PySem.Str),
  fGlo ("Tour" : PySem.Str),
  fMk ("Tour" : PySem.Str),
  fGlo ("_law_plus" : PySem.Str),
  fKiO ("Tour" : PySem.Str) ("Step" : PySem.Str) false,
  fKiO ("Step" : PySem.Str) ("Step" : PySem.Str) true,
  fKiO ("Ratio" : PySem.Str) ("Step" : PySem.Str) false,
  fKiB ("Step" : PySem.Str),
  fNfT ("Ratio" : PySem.Str) "int",
  fNfO ("Ratio" : PySem.Str) ("Tour" : PySem.Str),
  fNfO ("Ratio" : PySem.Str) ("Step" : PySem.Str),
  fNfO ("Ratio" : PySem.Str) ("Ratio" : PySem.Str),
  fMet ("Ratio" : PySem.Str) ("__eq__" : PySem.Str),
  fKiO ("Tour" : PySem.Str) ("Tour" : PySem.Str) true,
  fKiO ("Step" : PySem.Str) ("Tour" : PySem.Str) false,
  fKiO ("Ratio" : PySem.Str) ("Tour" : PySem.Str) false,
  fKiB ("Tour" : PySem.Str),
  fGlo ("need_tour" : PySem.Str),
  fMet ("Ratio" : PySem.Str) ("is_below" : PySem.Str),
  fGlo ("_law_lights" : PySem.Str),
  fGlo ("spot_at" : PySem.Str),
  fGlo ("_law_lit" : PySem.Str),
  fNfT ("Step" : PySem.Str) "int",
  fNfO ("Step" : PySem.Str) ("Tour" : PySem.Str),
  fNfO ("Step" : PySem.Str) ("Step" : PySem.Str),
  fNfO ("Step" : PySem.Str) ("Ratio" : PySem.Str),
  fMet ("Step" : PySem.Str) ("__eq__" : PySem.Str),
  fNe ("Step" : PySem.Str),
  fFree ("enumerate" : PySem.Str),
  fGlo ("need_step" : PySem.Str),
  fGlo ("age_of_light" : PySem.Str),
  fFree ("max" : PySem.Str),
  fGlo ("age_of_news" : PySem.Str),
  fGlo ("_law_is_less" : PySem.Str),
  fNe ("Ratio" : PySem.Str),
  fGlo ("need_axes" : PySem.Str),
  fMet ("Step" : PySem.Str) ("__neg__" : PySem.Str),
  fBiT ("Step" : PySem.Str) ("__add__" : PySem.Str) ("__radd__" : PySem.Str) "int",
  fSub ("Step" : PySem.Str) ("Ratio" : PySem.Str),
  fGlo ("straight_square" : PySem.Str),
  fBiT ("Step" : PySem.Str) ("__sub__" : PySem.Str) ("__rsub__" : PySem.Str) "int",
  fGlo ("_law_tour" : PySem.Str),
  fGlo ("_law_parts" : PySem.Str),
  fNfT ("Tour" : PySem.Str) "int",
  fNfO ("Tour" : PySem.Str) ("Tour" : PySem.Str),
  fNfO ("Tour" : PySem.Str) ("Step" : PySem.Str),
  fNfO ("Tour" : PySem.Str) ("Ratio" : PySem.Str),
  fMet ("Tour" : PySem.Str) ("__eq__" : PySem.Str),
  fNe ("Tour" : PySem.Str),
  fMet ("Tour" : PySem.Str) ("joined" : PySem.Str),
  fGlo ("_law_pen" : PySem.Str),
  fGlo ("_law_sums_right" : PySem.Str),
  fGlo ("_law_kin_right" : PySem.Str),
  fGlo ("_law_ages_right" : PySem.Str),
  fGlo ("_law_news_right" : PySem.Str),
  fCls ("Ratio" : PySem.Str) [("top" : PySem.Str), ("bottom" : PySem.Str)],
  fTy ("Ratio" : PySem.Str),
  fCls ("Step" : PySem.Str) [("time" : PySem.Str), ("place" : PySem.Str), ("axes" : PySem.Str), ("square" : PySem.Str), ("kind" : PySem.Str)],
  fTy ("Step" : PySem.Str),
  fCls ("Tour" : PySem.Str) [("parts" : PySem.Str), ("spots" : PySem.Str), ("age" : PySem.Str), ("step" : PySem.Str)],
  fTy ("Tour" : PySem.Str),
  fGlo "law"]
def fn : List DefZ := [d0, d1, d2, d3, d4, d5, d6, d7, d8, d9, d10, d11, d12, d13, d14, d15, d16, d17, d18, d19, d20, d21, d22, d23, d24, d25, d26, d27, d28, d29, d30, d31, d32, d33, d34, d35, d36, d37, d38, d39, d40, d41, d42, d43, d44, d45, d46, d47, d48, d49]
structure Hy (K : PySem.W.Frag) (mg : Str → Option Value) (base : Heap) : Prop where
  c : SaysZ fz fn K
  X0 : K.In base
  G0 : base.Ns mainGlobals mg
theorem clo0 {K : PySem.W.Frag} {mg : Str → Option Value} {base : Heap} (h : Hy K mg base) : Cls (gm K).K ((gm K).cA 0) ∧ ∀ f ∈ [("top" : PySem.Str), ("bottom" : PySem.Str)], NoAttr (gm K).K ((gm K).cA 0) f := noat_all (h.c.fact 122)
theorem co0 {K : PySem.W.Frag} {mg : Str → Option Value} {base : Heap} (h : Hy K mg base) : ClsOk (gm K) 0 := ⟨(clo0 h).1, (show (lay 0).Nodup by decide +kernel), (show ∀ f ∈ lay 0, f ∈ flds by decide +kernel), (clo0 h).2, (show (lay 0).length ≤ 900 by decide)⟩
theorem ty0 {K : PySem.W.Frag} {mg : Str → Option Value} {base : Heap} (h : Hy K mg base) : TyOk (gm K) 0 := ⟨(clo0 h).1, eqF_ok (He.ba (h.c.fact 123)).1, eqF_ok (He.ba (He.ba (h.c.fact 123)).2).1, eqF_ok (He.ba (He.ba (He.ba (h.c.fact 123)).2).2).1, eqF_ok (He.ba (He.ba (He.ba (h.c.fact 123)).2).2).2⟩
theorem clo1 {K : PySem.W.Frag} {mg : Str → Option Value} {base : Heap} (h : Hy K mg base) : Cls (gm K).K ((gm K).cA 1) ∧ ∀ f ∈ [("time" : PySem.Str), ("place" : PySem.Str), ("axes" : PySem.Str), ("square" : PySem.Str), ("kind" : PySem.Str)], NoAttr (gm K).K ((gm K).cA 1) f := noat_all (h.c.fact 124)
theorem co1 {K : PySem.W.Frag} {mg : Str → Option Value} {base : Heap} (h : Hy K mg base) : ClsOk (gm K) 1 := ⟨(clo1 h).1, (show (lay 1).Nodup by decide +kernel), (show ∀ f ∈ lay 1, f ∈ flds by decide +kernel), (clo1 h).2, (show (lay 1).length ≤ 900 by decide)⟩
theorem ty1 {K : PySem.W.Frag} {mg : Str → Option Value} {base : Heap} (h : Hy K mg base) : TyOk (gm K) 1 := ⟨(clo1 h).1, eqF_ok (He.ba (h.c.fact 125)).1, eqF_ok (He.ba (He.ba (h.c.fact 125)).2).1, eqF_ok (He.ba (He.ba (He.ba (h.c.fact 125)).2).2).1, eqF_ok (He.ba (He.ba (He.ba (h.c.fact 125)).2).2).2⟩
theorem clo2 {K : PySem.W.Frag} {mg : Str → Option Value} {base : Heap} (h : Hy K mg base) : Cls (gm K).K ((gm K).cA 2) ∧ ∀ f ∈ [("parts" : PySem.Str), ("spots" : PySem.Str), ("age" : PySem.Str), ("step" : PySem.Str)], NoAttr (gm K).K ((gm K).cA 2) f := noat_all (h.c.fact 126)
theorem co2 {K : PySem.W.Frag} {mg : Str → Option Value} {base : Heap} (h : Hy K mg base) : ClsOk (gm K) 2 := ⟨(clo2 h).1, (show (lay 2).Nodup by decide +kernel), (show ∀ f ∈ lay 2, f ∈ flds by decide +kernel), (clo2 h).2, (show (lay 2).length ≤ 900 by decide)⟩
theorem ty2 {K : PySem.W.Frag} {mg : Str → Option Value} {base : Heap} (h : Hy K mg base) : TyOk (gm K) 2 := ⟨(clo2 h).1, eqF_ok (He.ba (h.c.fact 127)).1, eqF_ok (He.ba (He.ba (h.c.fact 127)).2).1, eqF_ok (He.ba (He.ba (He.ba (h.c.fact 127)).2).2).1, eqF_ok (He.ba (He.ba (He.ba (h.c.fact 127)).2).2).2⟩
theorem ok_0 {P : Program} {w : World} {K : PySem.W.Frag} {mg : Str → Option Value} {base : Heap} (h : Hy K mg base) : ∃ fd, FunD K d0.name d0.qual d0.params d0.body d0.scope (d0.dvs K) [] (d0.wh.ad K) fd ∧ FnF P w (gm K) mg base 2 (d0.wh.ad K) fd [("_law_script" : PySem.Str)] 1 B__law_pen := by
  have m_int : mg ("int" : PySem.Str) = none := He.free_ok h.X0 h.G0 (h.c.fact 0)
  have hN : N0.Nodup := sc0.nd
  obtain ⟨fd, F⟩ := h.c.def_ 0 (d := d0) rfl
  exact ⟨fd, F, def_okF (G := gm K) (N := N0) (k := 1) F sc0 rfl fun cdv A outer s H E hr tk => (f_lst (a_cons (e_lcF (vs := [1]) [(("_law_cell" : PySem.Str), 1)] rfl (i_seq (e_sl (e_var 0) i_no (i_so e_int))) (blkOk_by (by kernel_rfl)) (fun _ _ _ _ _ => (g_to (O2 := []) (g_name 1))) (fun _ _ _ _ _ => pts_no) (fun _ _ _ _ _ => (e_toInt (a_cons (e_var 1) a_nil)))).fz (a_cons e_int (a_cons e_int a_nil))))⟩
theorem ok_1 {P : Program} {w : World} {K : PySem.W.Frag} {mg : Str → Option Value} {base : Heap} (h : Hy K mg base) : ∃ fd, FunD K d1.name d1.qual d1.params d1.body d1.scope (d1.dvs K) [] (d1.wh.ad K) fd ∧ FnB P w (gm K) mg base 2 (d1.wh.ad K) fd [("_law_pen_here" : PySem.Str), ("_law_many" : PySem.Str)] 2 [0] B__law_draw := by
  have m_int : mg ("int" : PySem.Str) = none := He.free_ok h.X0 h.G0 (h.c.fact 0)
  have m_len : mg ("len" : PySem.Str) = none := He.free_ok h.X0 h.G0 (h.c.fact 1)
  have m_abs : mg ("abs" : PySem.Str) = none := He.free_ok h.X0 h.G0 (h.c.fact 2)
  have hN : N1.Nodup := sc1.nd
  obtain ⟨fd, F⟩ := h.c.def_ 1 (d := d1) rfl
  exact ⟨fd, F, def_ok (G := gm K) (N := N1) (k := 1) (O' := [0]) F sc1 fun cdv A outer s H E hr tk => (s_cons (s_if (t_cmp o_gt (e_ixO 0 e_int) e_int) (s_cons (s_to (O2 := [0]) (s_set 2 (e_bin o_mod (e_toInt (a_cons (e_ixO 0 e_int) a_nil)) (e_var 1)))) (s_cons (s_ix 0 (e_bin o_div (e_toInt (a_cons (e_ixO 0 e_int) a_nil)) (e_var 1)) e_int) (s_one (s_ret (e_var 2))))) s_nil) (s_cons (s_to (O2 := [0]) (s_set 3 (e_ixO 0 e_int))) (s_cons (s_ix 0 (e_bin o_add (e_var 3) e_int) e_int) (s_cons (s_to (O2 := [0]) (s_set 4 (e_bin o_add (e_bin o_mul e_int (e_var 3)) e_int))) (s_cons (s_if (t_cmp (o_ne hr) (e_ixO 0 e_int) (e_lst a_nil)) (s_one (s_to (O2 := [0]) (s_set 4 (e_ix (e_ixO 0 e_int) (e_bin o_mod (e_toInt (a_cons (e_var 3) a_nil)) (e_len (a_cons (e_ixO 0 e_int) a_nil))))))) s_nil) (s_cons (s_if (t_bo (w_and (t_cmp o_lt (e_var 3) (e_len (a_cons (e_ixO 0 e_int) a_nil))) (w_and1 (t_cmp o_ge (e_abs (a_cons (e_var 4) a_nil)) (e_bin o_pow e_int e_int))))) (s_cons (s_to (O2 := [0]) (s_set 5 (e_bin o_add (e_bin o_mul e_int (e_bin o_sub (e_abs (a_cons (e_var 4) a_nil)) (e_bin o_pow e_int e_int))) (e_toInt (a_cons (e_cmp o_lt (e_var 4) e_int) a_nil))))) (s_cons (s_ix 0 (e_bin o_div (e_toInt (a_cons (e_var 5) a_nil)) (e_var 1)) e_int) (s_one (s_ret (e_bin o_mod (e_toInt (a_cons (e_var 5) a_nil)) (e_var 1)))))) s_nil) (s_cons (s_to (O2 := [0]) (s_set 6 (e_bin o_mod (e_toInt (a_cons (e_bin o_pow (e_bin o_add (e_bin o_add (e_bin o_mod (e_toInt (a_cons (e_var 4) a_nil)) e_int) (e_bin o_mul e_int (e_var 3))) e_int) e_int) a_nil)) e_int))) (s_cons (s_to (O2 := [0]) (s_set 6 (e_bin o_mod (e_toInt (a_cons (e_bin o_pow (e_bin o_add (e_bin o_add (e_bin o_mul (e_var 6) (e_bin o_add (e_bin o_mul e_int (e_var 3)) e_int)) (e_bin o_mul (e_bin o_mul e_int (e_var 3)) (e_var 3))) e_int) e_int) a_nil)) e_int))) (s_one (s_ret (e_bin o_mod (e_toInt (a_cons (e_bin o_div (e_var 6) e_int) a_nil)) (e_var 1))))))))))))⟩
theorem ok_2 {P : Program} {w : World} {K : PySem.W.Frag} {mg : Str → Option Value} {base : Heap} (h : Hy K mg base) : ∃ fd, FunD K d2.name d2.qual d2.params d2.body d2.scope (d2.dvs K) [] (d2.wh.ad K) fd ∧ FnB P w (gm K) mg base 3 (d2.wh.ad K) fd [("_law_pen_here" : PySem.Str), ("_law_some" : PySem.Str)] 2 [0] B__law_pick := by
  obtain ⟨fd1, F1, ok1⟩ := ok_1 (P := P) (w := w) h
  have m_len : mg ("len" : PySem.Str) = none := He.free_ok h.X0 h.G0 (h.c.fact 1)
  have g1 : GlOk (gm K) P w mg base 2 ("_law_draw" : PySem.Str) 2 [0] B__law_draw _ fd1 [("_law_pen_here" : PySem.Str), ("_law_many" : PySem.Str)] := ⟨He.glo_ok h.X0 h.G0 (h.c.fact 3), F1.kp, ok1, ar_of⟩
  have hN : N2.Nodup := sc2.nd
  obtain ⟨fd, F⟩ := h.c.def_ 2 (d := d2) rfl
  exact ⟨fd, F, def_ok (G := gm K) (N := N2) (k := 2) (O' := [0]) F sc2 fun cdv A outer s H E hr tk => (s_one (s_ret (e_ix (e_var 1) (e_callO 0 tk (hr.mono (by decide)) g1 (F1.bindsN (ps := [("_law_pen_here" : PySem.Str), ("_law_many" : PySem.Str)]) fun _ _ _ _ _ _ us hl => match us, hl with | [_, _], _ => rfl) (a_cons (e_len (a_cons (e_var 1) a_nil)) a_nil)))))⟩
theorem ok_3 {P : Program} {w : World} {K : PySem.W.Frag} {mg : Str → Option Value} {base : Heap} (h : Hy K mg base) : ∃ fd, FunD K d3.name d3.qual d3.params d3.body d3.scope (d3.dvs K) [] (d3.wh.ad K) fd ∧ FnB P w (gm K) mg base 4 (d3.wh.ad K) fd [("_law_pen_here" : PySem.Str), ("_law_most" : PySem.Str)] 2 [0] B__law_parts := by
  obtain ⟨fd2, F2, ok2⟩ := ok_2 (P := P) (w := w) h
  obtain ⟨fd1, F1, ok1⟩ := ok_1 (P := P) (w := w) h
  have g2 : GlOk (gm K) P w mg base 3 ("_law_pick" : PySem.Str) 2 [0] B__law_pick _ fd2 [("_law_pen_here" : PySem.Str), ("_law_some" : PySem.Str)] := ⟨He.glo_ok h.X0 h.G0 (h.c.fact 4), F2.kp, ok2, ar_of⟩
  have m_range : mg ("range" : PySem.Str) = none := He.free_ok h.X0 h.G0 (h.c.fact 5)
  have g1 : GlOk (gm K) P w mg base 2 ("_law_draw" : PySem.Str) 2 [0] B__law_draw _ fd1 [("_law_pen_here" : PySem.Str), ("_law_many" : PySem.Str)] := ⟨He.glo_ok h.X0 h.G0 (h.c.fact 3), F1.kp, ok1, ar_of⟩
  have hN : N3.Nodup := sc3.nd
  obtain ⟨fd, F⟩ := h.c.def_ 3 (d := d3) rfl
  exact ⟨fd, F, def_ok (G := gm K) (N := N3) (k := 3) (O' := [0]) F sc3 fun cdv A outer s H E hr tk => (s_cons (s_to (O2 := [2, 0]) (s_parF 2 3 (e_callO 0 tk (hr.mono (by decide)) g2 (F2.bindsN (ps := [("_law_pen_here" : PySem.Str), ("_law_some" : PySem.Str)]) fun _ _ _ _ _ _ us hl => match us, hl with | [_, _], _ => rfl) (a_cons (e_lst (a_cons e_int (a_cons e_int (a_cons e_int a_nil)))) a_nil)))) (s_cons (s_for (OL := [2, 0]) [4] (i_rng1 (a_cons (e_bin o_add e_int (e_callO 0 tk (hr.mono (by decide)) g1 (F1.bindsN (ps := [("_law_pen_here" : PySem.Str), ("_law_many" : PySem.Str)]) fun _ _ _ _ _ _ us hl => match us, hl with | [_, _], _ => rfl) (a_cons (e_var 1) a_nil))) a_nil)) (g_to (O2 := [2, 0]) (g_name 4)) (s_one (s_app 2 (e_tup (a_cons (e_tup (a_cons (e_bin o_add e_int (e_callO 0 tk (hr.mono (by decide)) g1 (F1.bindsN (ps := [("_law_pen_here" : PySem.Str), ("_law_many" : PySem.Str)]) fun _ _ _ _ _ _ us hl => match us, hl with | [_, _], _ => rfl) (a_cons (e_var 3) a_nil))) (a_cons (e_bin o_add e_int (e_callO 0 tk (hr.mono (by decide)) g1 (F1.bindsN (ps := [("_law_pen_here" : PySem.Str), ("_law_many" : PySem.Str)]) fun _ _ _ _ _ _ us hl => match us, hl with | [_, _], _ => rfl) (a_cons (e_var 3) a_nil))) a_nil))) (a_cons (e_tup (a_cons (e_bin o_add e_int (e_callO 0 tk (hr.mono (by decide)) g1 (F1.bindsN (ps := [("_law_pen_here" : PySem.Str), ("_law_many" : PySem.Str)]) fun _ _ _ _ _ _ us hl => match us, hl with | [_, _], _ => rfl) (a_cons e_int a_nil))) (a_cons (e_bin o_add e_int (e_callO 0 tk (hr.mono (by decide)) g1 (F1.bindsN (ps := [("_law_pen_here" : PySem.Str), ("_law_many" : PySem.Str)]) fun _ _ _ _ _ _ us hl => match us, hl with | [_, _], _ => rfl) (a_cons e_int a_nil))) a_nil))) a_nil))))) (passes_of rfl)) (s_cons (s_if (t_cmp (o_eq hr) (e_callO 0 tk (hr.mono (by decide)) g1 (F1.bindsN (ps := [("_law_pen_here" : PySem.Str), ("_law_many" : PySem.Str)]) fun _ _ _ _ _ _ us hl => match us, hl with | [_, _], _ => rfl) (a_cons e_int a_nil)) e_int) (ss_frz (O1 := [0]) (s_one (s_ret (e_lcF (vs := [5, 6]) [(("_law_ratio" : PySem.Str), 5), (("_law_beats" : PySem.Str), 6)] rfl (i_seq (e_var 2)) (blkOk_by (by kernel_rfl)) (fun _ _ _ _ _ => (g_tup (gs_cons (g_to (O2 := [0]) (g_name 5)) (gs_cons (g_to (O2 := [0]) (g_name 6)) gs_nil)))) (fun _ _ _ _ _ => pts_no) (fun _ _ _ _ _ => (e_tup (a_cons (e_ix (e_ix (e_var 2) e_int) e_int) (a_cons (e_var 6) a_nil))))).fz))) s_nil) (ss_frz (O1 := [0]) (s_one (s_ret (e_var 2)))))))⟩
theorem ok_4 {P : Program} {w : World} {K : PySem.W.Frag} {mg : Str → Option Value} {base : Heap} (h : Hy K mg base) : ∃ fd, FunD K d4.name d4.qual d4.params d4.body d4.scope (d4.dvs K) [] (d4.wh.ad K) fd ∧ FnB P w (gm K) mg base 2 (d4.wh.ad K) fd [("value" : PySem.Str)] 1 [] B_is_integer := by
  have m_isinstance : mg ("isinstance" : PySem.Str) = none := He.free_ok h.X0 h.G0 (h.c.fact 6)
  have m_int : mg ("int" : PySem.Str) = none := He.free_ok h.X0 h.G0 (h.c.fact 0)
  have m_bool : mg ("bool" : PySem.Str) = none := He.free_ok h.X0 h.G0 (h.c.fact 10)
  have hN : N4.Nodup := sc4.nd
  obtain ⟨fd, F⟩ := h.c.def_ 4 (d := d4) rfl
  exact ⟨fd, F, def_ok (G := gm K) (N := N4) (k := 1) (O' := []) F sc4 fun cdv A outer s H E hr tk => (s_one (s_ret (e_and (e_isi (e_var 0) cv_ty (kn_ty (n := "int") [0, 1, 2] (mem_cons ⟨ty0 h, eqF_ok (h.c.fact 9)⟩ (mem_cons ⟨ty1 h, eqF_ok (h.c.fact 8)⟩ (mem_cons ⟨ty2 h, eqF_ok (h.c.fact 7)⟩ mem_nil))))) (e_bo1 (e_not (e_isi (e_var 0) cv_ty (kn_ty (n := "bool") [0, 1, 2] (mem_cons ⟨ty0 h, eqF_ok (h.c.fact 13)⟩ (mem_cons ⟨ty1 h, eqF_ok (h.c.fact 12)⟩ (mem_cons ⟨ty2 h, eqF_ok (h.c.fact 11)⟩ mem_nil))))))))))⟩
theorem ok_5 {P : Program} {w : World} {K : PySem.W.Frag} {mg : Str → Option Value} {base : Heap} (h : Hy K mg base) : ∃ fd, FunD K d5.name d5.qual d5.params d5.body d5.scope (d5.dvs K) [] (d5.wh.ad K) fd ∧ FnB P w (gm K) mg base 3 (d5.wh.ad K) fd [("self" : PySem.Str), ("top" : PySem.Str), ("bottom" : PySem.Str)] 3 [0] B_Ratio___init__ := by
  obtain ⟨fd4, F4, ok4⟩ := ok_4 (P := P) (w := w) h
  have g4 : GlOk (gm K) P w mg base 2 ("is_integer" : PySem.Str) 1 [] B_is_integer _ fd4 [("value" : PySem.Str)] := ⟨He.glo_ok h.X0 h.G0 (h.c.fact 14), F4.kp, ok4, ar_of⟩
  have ht_fs_top : ∀ c i, List.lookup c [(0, 0)] = some i → ClsOk (gm K) c ∧ ((gm K).lay c)[i]? = some ("top" : PySem.Str) := lk_cons ⟨co0 h, rfl⟩ lk_nil
  have ht_fs_bottom : ∀ c i, List.lookup c [(0, 1)] = some i → ClsOk (gm K) c ∧ ((gm K).lay c)[i]? = some ("bottom" : PySem.Str) := lk_cons ⟨co0 h, rfl⟩ lk_nil
  have hN : N5.Nodup := sc5.nd
  obtain ⟨fd, F⟩ := h.c.def_ 5 (d := d5) rfl
  exact ⟨fd, F, def_ok (G := gm K) (N := N5) (k := 2) (O' := [0]) F sc5 fun cdv A outer s H E hr tk => (s_cons (s_if (t_not (t_val (e_call tk (hr.mono (by decide)) g4 (F4.bindsN (ps := [("value" : PySem.Str)]) fun _ _ _ _ _ _ us hl => match us, hl with | [_], _ => rfl) .nil (fun _ => .nil) (a_cons (e_var 1) a_nil)))) (s_one s_no) s_nil) (s_cons (s_if (t_bo (w_or (t_not (t_val (e_call tk (hr.mono (by decide)) g4 (F4.bindsN (ps := [("value" : PySem.Str)]) fun _ _ _ _ _ _ us hl => match us, hl with | [_], _ => rfl) .nil (fun _ => .nil) (a_cons (e_var 2) a_nil)))) (w_or1 (t_cmp (o_eq hr) (e_var 2) e_int)))) (s_one s_no) s_nil) (s_cons (s_to (O2 := [0]) (s_set 3 (e_if (t_cmp o_gt (e_var 2) e_int) (e_gcd (a_cons (e_var 1) (a_cons (e_var 2) a_nil)) (blt_ok h.X0 h.G0 (h.c.fact 15))) (e_un o_neg (e_gcd (a_cons (e_var 1) (a_cons (e_var 2) a_nil)) (blt_ok h.X0 h.G0 (h.c.fact 15))))))) (s_cons (s_fld 0 [(0, 0)] (e_bin o_div (e_var 1) (e_var 3)) ht_fs_top) (s_one (s_fld 0 [(0, 1)] (e_bin o_div (e_var 2) (e_var 3)) ht_fs_bottom))))))⟩
theorem ok_6 {P : Program} {w : World} {K : PySem.W.Frag} {mg : Str → Option Value} {base : Heap} (h : Hy K mg base) : ∃ fd, FunD K d6.name d6.qual d6.params d6.body d6.scope (d6.dvs K) [] (d6.wh.ad K) fd ∧ FnB P w (gm K) mg base 5 (d6.wh.ad K) fd [("value" : PySem.Str), ("part" : PySem.Str)] 2 [] B_ratio_from := by
  obtain ⟨fd4, F4, ok4⟩ := ok_4 (P := P) (w := w) h
  obtain ⟨fd5, F5, ok5⟩ := ok_5 (P := P) (w := w) h
  have m_isinstance : mg ("isinstance" : PySem.Str) = none := He.free_ok h.X0 h.G0 (h.c.fact 6)
  have g4 : GlOk (gm K) P w mg base 2 ("is_integer" : PySem.Str) 1 [] B_is_integer _ fd4 [("value" : PySem.Str)] := ⟨He.glo_ok h.X0 h.G0 (h.c.fact 14), F4.kp, ok4, ar_of⟩
  have nw5 : NwOk (gm K) P w mg base 3 ("Ratio" : PySem.Str) 0 3 B_Ratio___init__ _ fd5 [("self" : PySem.Str), ("top" : PySem.Str), ("bottom" : PySem.Str)] := ⟨He.glo_ok h.X0 h.G0 (h.c.fact 19), He.mkr_ok (h.c.fact 21), rfl, ok5, ar_of, rfl⟩
  obtain ⟨bd5_2, bd5_2_v, bd5_2_b⟩ := F5.binds1 (ps := [("self" : PySem.Str), ("top" : PySem.Str), ("bottom" : PySem.Str)]) 2 0 (List.cons_ne_nil _ _) rfl fun T kV doc pm an cdv ct us its h1 h2 => ⟨_, rfl, match us, h1, its, h2 with | [_, _], _, [_], _ => rfl⟩
  have hN : N6.Nodup := sc6.nd
  obtain ⟨fd, F⟩ := h.c.def_ 6 (d := d6) rfl
  exact ⟨fd, F, def_ok (G := gm K) (N := N6) (k := 4) (O' := []) F sc6 fun cdv A outer s H E hr tk => (s_cons (s_if (t_val (e_isi (e_var 0) (cv_own (He.glo_ok h.X0 h.G0 (h.c.fact 19))) (kn_own (k := 0) [(0, true), (1, false), (2, false)] (lk_cons ⟨ty0 h, eqF_ok (h.c.fact 18)⟩ (lk_cons ⟨ty1 h, eqF_ok (h.c.fact 17)⟩ (lk_cons ⟨ty2 h, eqF_ok (h.c.fact 16)⟩ lk_nil))) fun m hm => eqF_ok (List.all_eq_true.mp (h.c.fact 20) m hm)))) (s_one (s_ret (e_var 0))) s_nil) (s_cons (s_if (t_not (t_val (e_call tk (hr.mono (by decide)) g4 (F4.bindsN (ps := [("value" : PySem.Str)]) fun _ _ _ _ _ _ us hl => match us, hl with | [_], _ => rfl) .nil (fun _ => .nil) (a_cons (e_var 0) a_nil)))) (s_one s_no) s_nil) (s_one (s_ret (e_new tk (hr.mono (by decide)) nw5 bd5_2_b bd5_2_v (fun _ => (.cons .int .nil)) (a_cons (e_var 0) a_nil))))))⟩
theorem ok_7 {P : Program} {w : World} {K : PySem.W.Frag} {mg : Str → Option Value} {base : Heap} (h : Hy K mg base) : ∃ fd, FunD K d7.name d7.qual d7.params d7.body d7.scope (d7.dvs K) [] (d7.wh.ad K) fd ∧ FnB P w (gm K) mg base 6 (d7.wh.ad K) fd [("self" : PySem.Str), ("other" : PySem.Str)] 2 [] B_Ratio___add__ := by
  obtain ⟨fd6, F6, ok6⟩ := ok_6 (P := P) (w := w) h
  obtain ⟨fd5, F5, ok5⟩ := ok_5 (P := P) (w := w) h
  have g6 : GlOk (gm K) P w mg base 5 ("ratio_from" : PySem.Str) 2 [] B_ratio_from _ fd6 [("value" : PySem.Str), ("part" : PySem.Str)] := ⟨He.glo_ok h.X0 h.G0 (h.c.fact 22), F6.kp, ok6, ar_of⟩
  have nw5 : NwOk (gm K) P w mg base 3 ("Ratio" : PySem.Str) 0 3 B_Ratio___init__ _ fd5 [("self" : PySem.Str), ("top" : PySem.Str), ("bottom" : PySem.Str)] := ⟨He.glo_ok h.X0 h.G0 (h.c.fact 19), He.mkr_ok (h.c.fact 21), rfl, ok5, ar_of, rfl⟩
  have ht_fl_top : ∀ c i, List.lookup c [(0, 0)] = some i → ClsOk (gm K) c ∧ ((gm K).lay c)[i]? = some ("top" : PySem.Str) := (lk_cons ⟨co0 h, rfl⟩ lk_nil)
  have ht_fl_bottom : ∀ c i, List.lookup c [(0, 1)] = some i → ClsOk (gm K) c ∧ ((gm K).lay c)[i]? = some ("bottom" : PySem.Str) := (lk_cons ⟨co0 h, rfl⟩ lk_nil)
  obtain ⟨bd5_3, bd5_3_v, bd5_3_b⟩ := F5.binds1 (ps := [("self" : PySem.Str), ("top" : PySem.Str), ("bottom" : PySem.Str)]) 3 1 (List.cons_ne_nil _ _) rfl fun T kV doc pm an cdv ct us its h1 h2 => ⟨_, rfl, match us, h1, its, h2 with | [_, _, _], _, [_], _ => rfl⟩
  have hN : N7.Nodup := sc7.nd
  obtain ⟨fd, F⟩ := h.c.def_ 7 (d := d7) rfl
  exact ⟨fd, F, def_ok (G := gm K) (N := N7) (k := 5) (O' := []) F sc7 fun cdv A outer s H E hr tk => (s_cons (s_to (O2 := []) (s_set 2 (e_call tk (hr.mono (by decide)) g6 (F6.bindsN (ps := [("value" : PySem.Str), ("part" : PySem.Str)]) fun _ _ _ _ _ _ us hl => match us, hl with | [_, _], _ => rfl) .nil (fun _ => .nil) (a_cons (e_var 1) (a_cons e_str a_nil))))) (s_one (s_ret (e_new tk (hr.mono (by decide)) nw5 bd5_3_b bd5_3_v (fun _ => .nil) (a_cons (e_bin o_add (e_bin o_mul (e_fl [(0, 0)] (e_var 0) ht_fl_top) (e_fl [(0, 1)] (e_var 2) ht_fl_bottom)) (e_bin o_mul (e_fl [(0, 0)] (e_var 2) ht_fl_top) (e_fl [(0, 1)] (e_var 0) ht_fl_bottom))) (a_cons (e_bin o_mul (e_fl [(0, 1)] (e_var 0) ht_fl_bottom) (e_fl [(0, 1)] (e_var 2) ht_fl_bottom)) a_nil))))))⟩
theorem ok_8 {P : Program} {w : World} {K : PySem.W.Frag} {mg : Str → Option Value} {base : Heap} (h : Hy K mg base) : ∃ fd, FunD K d8.name d8.qual d8.params d8.body d8.scope (d8.dvs K) [] (d8.wh.ad K) fd ∧ FnB P w (gm K) mg base 6 (d8.wh.ad K) fd [("self" : PySem.Str), ("other" : PySem.Str)] 2 [] B_Ratio_over := by
  obtain ⟨fd6, F6, ok6⟩ := ok_6 (P := P) (w := w) h
  obtain ⟨fd5, F5, ok5⟩ := ok_5 (P := P) (w := w) h
  have g6 : GlOk (gm K) P w mg base 5 ("ratio_from" : PySem.Str) 2 [] B_ratio_from _ fd6 [("value" : PySem.Str), ("part" : PySem.Str)] := ⟨He.glo_ok h.X0 h.G0 (h.c.fact 22), F6.kp, ok6, ar_of⟩
  have ht_fl_top : ∀ c i, List.lookup c [(0, 0)] = some i → ClsOk (gm K) c ∧ ((gm K).lay c)[i]? = some ("top" : PySem.Str) := (lk_cons ⟨co0 h, rfl⟩ lk_nil)
  have nw5 : NwOk (gm K) P w mg base 3 ("Ratio" : PySem.Str) 0 3 B_Ratio___init__ _ fd5 [("self" : PySem.Str), ("top" : PySem.Str), ("bottom" : PySem.Str)] := ⟨He.glo_ok h.X0 h.G0 (h.c.fact 19), He.mkr_ok (h.c.fact 21), rfl, ok5, ar_of, rfl⟩
  have ht_fl_bottom : ∀ c i, List.lookup c [(0, 1)] = some i → ClsOk (gm K) c ∧ ((gm K).lay c)[i]? = some ("bottom" : PySem.Str) := (lk_cons ⟨co0 h, rfl⟩ lk_nil)
  obtain ⟨bd5_3, bd5_3_v, bd5_3_b⟩ := F5.binds1 (ps := [("self" : PySem.Str), ("top" : PySem.Str), ("bottom" : PySem.Str)]) 3 1 (List.cons_ne_nil _ _) rfl fun T kV doc pm an cdv ct us its h1 h2 => ⟨_, rfl, match us, h1, its, h2 with | [_, _, _], _, [_], _ => rfl⟩
  have hN : N8.Nodup := sc8.nd
  obtain ⟨fd, F⟩ := h.c.def_ 8 (d := d8) rfl
  exact ⟨fd, F, def_ok (G := gm K) (N := N8) (k := 5) (O' := []) F sc8 fun cdv A outer s H E hr tk => (s_cons (s_to (O2 := []) (s_set 2 (e_call tk (hr.mono (by decide)) g6 (F6.bindsN (ps := [("value" : PySem.Str), ("part" : PySem.Str)]) fun _ _ _ _ _ _ us hl => match us, hl with | [_, _], _ => rfl) .nil (fun _ => .nil) (a_cons (e_var 1) (a_cons e_str a_nil))))) (s_cons (s_if (t_cmp (o_eq hr) (e_fl [(0, 0)] (e_var 2) ht_fl_top) e_int) (s_one s_no) s_nil) (s_one (s_ret (e_new tk (hr.mono (by decide)) nw5 bd5_3_b bd5_3_v (fun _ => .nil) (a_cons (e_bin o_mul (e_fl [(0, 0)] (e_var 0) ht_fl_top) (e_fl [(0, 1)] (e_var 2) ht_fl_bottom)) (a_cons (e_bin o_mul (e_fl [(0, 1)] (e_var 0) ht_fl_bottom) (e_fl [(0, 0)] (e_var 2) ht_fl_top)) a_nil)))))))⟩
theorem ok_9 {P : Program} {w : World} {K : PySem.W.Frag} {mg : Str → Option Value} {base : Heap} (h : Hy K mg base) : ∃ fd, FunD K d9.name d9.qual d9.params d9.body d9.scope (d9.dvs K) [] (d9.wh.ad K) fd ∧ FnB P w (gm K) mg base 6 (d9.wh.ad K) fd [("self" : PySem.Str), ("other" : PySem.Str)] 2 [] B_Ratio___mul__ := by
  obtain ⟨fd6, F6, ok6⟩ := ok_6 (P := P) (w := w) h
  obtain ⟨fd5, F5, ok5⟩ := ok_5 (P := P) (w := w) h
  have g6 : GlOk (gm K) P w mg base 5 ("ratio_from" : PySem.Str) 2 [] B_ratio_from _ fd6 [("value" : PySem.Str), ("part" : PySem.Str)] := ⟨He.glo_ok h.X0 h.G0 (h.c.fact 22), F6.kp, ok6, ar_of⟩
  have nw5 : NwOk (gm K) P w mg base 3 ("Ratio" : PySem.Str) 0 3 B_Ratio___init__ _ fd5 [("self" : PySem.Str), ("top" : PySem.Str), ("bottom" : PySem.Str)] := ⟨He.glo_ok h.X0 h.G0 (h.c.fact 19), He.mkr_ok (h.c.fact 21), rfl, ok5, ar_of, rfl⟩
  have ht_fl_top : ∀ c i, List.lookup c [(0, 0)] = some i → ClsOk (gm K) c ∧ ((gm K).lay c)[i]? = some ("top" : PySem.Str) := (lk_cons ⟨co0 h, rfl⟩ lk_nil)
  have ht_fl_bottom : ∀ c i, List.lookup c [(0, 1)] = some i → ClsOk (gm K) c ∧ ((gm K).lay c)[i]? = some ("bottom" : PySem.Str) := (lk_cons ⟨co0 h, rfl⟩ lk_nil)
  obtain ⟨bd5_3, bd5_3_v, bd5_3_b⟩ := F5.binds1 (ps := [("self" : PySem.Str), ("top" : PySem.Str), ("bottom" : PySem.Str)]) 3 1 (List.cons_ne_nil _ _) rfl fun T kV doc pm an cdv ct us its h1 h2 => ⟨_, rfl, match us, h1, its, h2 with | [_, _, _], _, [_], _ => rfl⟩
  have hN : N9.Nodup := sc9.nd
  obtain ⟨fd, F⟩ := h.c.def_ 9 (d := d9) rfl
  exact ⟨fd, F, def_ok (G := gm K) (N := N9) (k := 5) (O' := []) F sc9 fun cdv A outer s H E hr tk => (s_cons (s_to (O2 := []) (s_set 2 (e_call tk (hr.mono (by decide)) g6 (F6.bindsN (ps := [("value" : PySem.Str), ("part" : PySem.Str)]) fun _ _ _ _ _ _ us hl => match us, hl with | [_, _], _ => rfl) .nil (fun _ => .nil) (a_cons (e_var 1) (a_cons e_str a_nil))))) (s_one (s_ret (e_new tk (hr.mono (by decide)) nw5 bd5_3_b bd5_3_v (fun _ => .nil) (a_cons (e_bin o_mul (e_fl [(0, 0)] (e_var 0) ht_fl_top) (e_fl [(0, 0)] (e_var 2) ht_fl_top)) (a_cons (e_bin o_mul (e_fl [(0, 1)] (e_var 0) ht_fl_bottom) (e_fl [(0, 1)] (e_var 2) ht_fl_bottom)) a_nil))))))⟩
theorem ok_10 {P : Program} {w : World} {K : PySem.W.Frag} {mg : Str → Option Value} {base : Heap} (h : Hy K mg base) : ∃ fd, FunD K d10.name d10.qual d10.params d10.body d10.scope (d10.dvs K) [] (d10.wh.ad K) fd ∧ FnB P w (gm K) mg base 7 (d10.wh.ad K) fd [("parts" : PySem.Str)] 1 [] B_lights_along := by
  obtain ⟨fd5, F5, ok5⟩ := ok_5 (P := P) (w := w) h
  obtain ⟨fd7, F7, ok7⟩ := ok_7 (P := P) (w := w) h
  obtain ⟨fd8, F8, ok8⟩ := ok_8 (P := P) (w := w) h
  obtain ⟨fd9, F9, ok9⟩ := ok_9 (P := P) (w := w) h
  have nw5 : NwOk (gm K) P w mg base 3 ("Ratio" : PySem.Str) 0 3 B_Ratio___init__ _ fd5 [("self" : PySem.Str), ("top" : PySem.Str), ("bottom" : PySem.Str)] := ⟨He.glo_ok h.X0 h.G0 (h.c.fact 19), He.mkr_ok (h.c.fact 21), rfl, ok5, ar_of, rfl⟩
  obtain ⟨bd5_2, bd5_2_v, bd5_2_b⟩ := F5.binds1 (ps := [("self" : PySem.Str), ("top" : PySem.Str), ("bottom" : PySem.Str)]) 2 0 (List.cons_ne_nil _ _) rfl fun T kV doc pm an cdv ct us its h1 h2 => ⟨_, rfl, match us, h1, its, h2 with | [_, _], _, [_], _ => rfl⟩
  have ht_add : ∀ c B, List.lookup c [(0, B_Ratio___add__)] = some B → (∃ f fd ps, OwnOk (gm K) P w mg base 6 ("__add__" : PySem.Str) c B f fd ps 2) ∧ BinOk (gm K) ("__add__" : PySem.Str) ("__radd__" : PySem.Str) ["int"] [0, 1] c := (lk_cons ⟨⟨_, fd7, [("self" : PySem.Str), ("other" : PySem.Str)], (He.meth_ok (h.c.fact 28)).at_, (He.meth_ok (h.c.fact 28)).fn, fn_up ok7 (by decide), F7.bindsN (ps := [("self" : PySem.Str), ("other" : PySem.Str)]) fun _ _ _ _ _ _ us hl => match us, hl with | [_, _], _ => rfl, ar_of⟩, ⟨(h.c.fact 29), rd_ok (h.c.fact 30), (mem_cons ⟨by decide, biT_ok (h.c.fact 23)⟩ mem_nil), (mem_cons (.inl rfl) (mem_cons (.inr ⟨(sub_ok (h.c.fact 24)).2, (h.c.fact 25), ⟨_, (He.meth_ok (h.c.fact 26)).at_⟩, rd_ok (h.c.fact 27), (sub_ok (h.c.fact 24)).1⟩) mem_nil))⟩⟩ lk_nil)
  have mt_over_1 : ∀ c B, List.lookup c [(0, B_Ratio_over)] = some B → ∃ n f fd ps ds dvs, MtOk (gm K) P w mg base 6 c ("over" : PySem.Str) n B f fd ps ds dvs ∧ ∀ F, RepL (gm K) F [] dvs := (lk_cons ⟨2, _, fd8, [("self" : PySem.Str), ("other" : PySem.Str)], _, _, ⟨(clo0 h).1, He.meth_ok (h.c.fact 31), fn_up ok8 (by decide), ar_of, (F8.bindsN (ps := [("self" : PySem.Str), ("other" : PySem.Str)]) fun _ _ _ _ _ _ us hl => match us, hl with | [_, _], _ => rfl), .nil⟩, (fun _ => .nil)⟩ lk_nil)
  have ht_mul : ∀ c B, List.lookup c [(0, B_Ratio___mul__)] = some B → (∃ f fd ps, OwnOk (gm K) P w mg base 6 ("__mul__" : PySem.Str) c B f fd ps 2) ∧ BinOk (gm K) ("__mul__" : PySem.Str) ("__rmul__" : PySem.Str) ["int"] [0, 1] c := (lk_cons ⟨⟨_, fd9, [("self" : PySem.Str), ("other" : PySem.Str)], (He.meth_ok (h.c.fact 35)).at_, (He.meth_ok (h.c.fact 35)).fn, fn_up ok9 (by decide), F9.bindsN (ps := [("self" : PySem.Str), ("other" : PySem.Str)]) fun _ _ _ _ _ _ us hl => match us, hl with | [_, _], _ => rfl, ar_of⟩, ⟨(h.c.fact 29), rd_ok (h.c.fact 36), (mem_cons ⟨by decide, biT_ok (h.c.fact 32)⟩ mem_nil), (mem_cons (.inl rfl) (mem_cons (.inr ⟨(sub_ok (h.c.fact 24)).2, (h.c.fact 25), ⟨_, (He.meth_ok (h.c.fact 33)).at_⟩, rd_ok (h.c.fact 34), (sub_ok (h.c.fact 24)).1⟩) mem_nil))⟩⟩ lk_nil)
  have hN : N10.Nodup := sc10.nd
  obtain ⟨fd, F⟩ := h.c.def_ 10 (d := d10) rfl
  exact ⟨fd, F, def_ok (G := gm K) (N := N10) (k := 6) (O' := []) F sc10 fun cdv A outer s H E hr tk => (s_cons (s_to (O2 := [1]) (s_setF 1 (f_lst (a_cons (e_tup (a_cons (e_new tk (hr.mono (by decide)) nw5 bd5_2_b bd5_2_v (fun _ => (.cons .int .nil)) (a_cons e_int a_nil)) (a_cons (e_new tk (hr.mono (by decide)) nw5 bd5_2_b bd5_2_v (fun _ => (.cons .int .nil)) (a_cons e_int a_nil)) (a_cons (e_new tk (hr.mono (by decide)) nw5 bd5_2_b bd5_2_v (fun _ => (.cons .int .nil)) (a_cons e_int a_nil)) a_nil)))) a_nil)))) (s_cons (s_for (OL := [1]) [2, 3] (i_seq (e_var 0)) (g_tup (gs_cons (g_to (O2 := [1]) (g_name 2)) (gs_cons (g_to (O2 := [1]) (g_name 3)) gs_nil))) (s_cons (s_asg (vs := [0, 1, 2, 3, 4, 5, 6]) (e_ixO 1 (e_un o_neg e_int)) (g_tup (gs_cons (g_to (O2 := [1]) (g_name 4)) (gs_cons (g_to (O2 := [1]) (g_name 5)) (gs_cons (g_to (O2 := [1]) (g_name 6)) gs_nil))))) (s_one (s_app 1 (e_tup (a_cons (e_bin (o_bin [(0, B_Ratio___add__)] ["int"] [0, 1] tk (hr.mono (by decide)) o_add ht_add) (e_var 4) (e_var 3)) (a_cons (e_bin (o_bin [(0, B_Ratio___add__)] ["int"] [0, 1] tk (hr.mono (by decide)) o_add ht_add) (e_var 5) (e_meth [(0, B_Ratio_over)] tk (hr.mono (by decide)) (show ("over" : PySem.Str) ∉ flds by decide +kernel) (e_var 3) (a_cons (e_var 2) a_nil) mt_over_1)) (a_cons (e_bin (o_bin [(0, B_Ratio___add__)] ["int"] [0, 1] tk (hr.mono (by decide)) o_add ht_add) (e_var 6) (e_bin (o_bin [(0, B_Ratio___mul__)] ["int"] [0, 1] tk (hr.mono (by decide)) o_mul ht_mul) (e_var 3) (e_var 2))) a_nil))))))) (passes_of rfl)) (ss_frz (O1 := []) (s_one (s_ret (e_var 1))))))⟩
theorem ok_11 {P : Program} {w : World} {K : PySem.W.Frag} {mg : Str → Option Value} {base : Heap} (h : Hy K mg base) : ∃ fd, FunD K d11.name d11.qual d11.params d11.body d11.scope (d11.dvs K) [] (d11.wh.ad K) fd ∧ FnB P w (gm K) mg base 2 (d11.wh.ad K) fd [("value" : PySem.Str)] 1 [] B_is_listed := by
  have m_isinstance : mg ("isinstance" : PySem.Str) = none := He.free_ok h.X0 h.G0 (h.c.fact 6)
  have m_tuple : mg ("tuple" : PySem.Str) = none := He.free_ok h.X0 h.G0 (h.c.fact 37)
  have m_list : mg ("list" : PySem.Str) = none := He.free_ok h.X0 h.G0 (h.c.fact 41)
  have hN : N11.Nodup := sc11.nd
  obtain ⟨fd, F⟩ := h.c.def_ 11 (d := d11) rfl
  exact ⟨fd, F, def_ok (G := gm K) (N := N11) (k := 1) (O' := []) F sc11 fun cdv A outer s H E hr tk => (s_one (s_ret (e_isT (e_var 0) (cvs_cons cv_ty (kn_ty (n := "list") [0, 1, 2] (mem_cons ⟨ty0 h, eqF_ok (h.c.fact 44)⟩ (mem_cons ⟨ty1 h, eqF_ok (h.c.fact 43)⟩ (mem_cons ⟨ty2 h, eqF_ok (h.c.fact 42)⟩ mem_nil)))) (cvs_cons cv_ty (kn_ty (n := "tuple") [0, 1, 2] (mem_cons ⟨ty0 h, eqF_ok (h.c.fact 40)⟩ (mem_cons ⟨ty1 h, eqF_ok (h.c.fact 39)⟩ (mem_cons ⟨ty2 h, eqF_ok (h.c.fact 38)⟩ mem_nil)))) cvs_nil)))))⟩
theorem ok_12 {P : Program} {w : World} {K : PySem.W.Frag} {mg : Str → Option Value} {base : Heap} (h : Hy K mg base) : ∃ fd, FunD K d12.name d12.qual d12.params d12.body d12.scope (d12.dvs K) [] (d12.wh.ad K) fd ∧ FnB P w (gm K) mg base 6 (d12.wh.ad K) fd [("value" : PySem.Str)] 1 [] B_Ratio_of := by
  obtain ⟨fd6, F6, ok6⟩ := ok_6 (P := P) (w := w) h
  have g6 : GlOk (gm K) P w mg base 5 ("ratio_from" : PySem.Str) 2 [] B_ratio_from _ fd6 [("value" : PySem.Str), ("part" : PySem.Str)] := ⟨He.glo_ok h.X0 h.G0 (h.c.fact 22), F6.kp, ok6, ar_of⟩
  have hN : N12.Nodup := sc12.nd
  obtain ⟨fd, F⟩ := h.c.def_ 12 (d := d12) rfl
  exact ⟨fd, F, def_ok (G := gm K) (N := N12) (k := 5) (O' := []) F sc12 fun cdv A outer s H E hr tk => (s_one (s_ret (e_call tk (hr.mono (by decide)) g6 (F6.bindsN (ps := [("value" : PySem.Str), ("part" : PySem.Str)]) fun _ _ _ _ _ _ us hl => match us, hl with | [_, _], _ => rfl) .nil (fun _ => .nil) (a_cons (e_var 0) (a_cons e_str a_nil)))))⟩
theorem ok_13 {P : Program} {w : World} {K : PySem.W.Frag} {mg : Str → Option Value} {base : Heap} (h : Hy K mg base) : ∃ fd, FunD K d13.name d13.qual d13.params d13.body d13.scope (d13.dvs K) [] (d13.wh.ad K) fd ∧ FnB P w (gm K) mg base 5 (d13.wh.ad K) fd [("self" : PySem.Str)] 1 [] B_Ratio___neg__ := by
  obtain ⟨fd5, F5, ok5⟩ := ok_5 (P := P) (w := w) h
  have nw5 : NwOk (gm K) P w mg base 3 ("Ratio" : PySem.Str) 0 3 B_Ratio___init__ _ fd5 [("self" : PySem.Str), ("top" : PySem.Str), ("bottom" : PySem.Str)] := ⟨He.glo_ok h.X0 h.G0 (h.c.fact 19), He.mkr_ok (h.c.fact 21), rfl, ok5, ar_of, rfl⟩
  have ht_fl_top : ∀ c i, List.lookup c [(0, 0)] = some i → ClsOk (gm K) c ∧ ((gm K).lay c)[i]? = some ("top" : PySem.Str) := (lk_cons ⟨co0 h, rfl⟩ lk_nil)
  have ht_fl_bottom : ∀ c i, List.lookup c [(0, 1)] = some i → ClsOk (gm K) c ∧ ((gm K).lay c)[i]? = some ("bottom" : PySem.Str) := (lk_cons ⟨co0 h, rfl⟩ lk_nil)
  obtain ⟨bd5_3, bd5_3_v, bd5_3_b⟩ := F5.binds1 (ps := [("self" : PySem.Str), ("top" : PySem.Str), ("bottom" : PySem.Str)]) 3 1 (List.cons_ne_nil _ _) rfl fun T kV doc pm an cdv ct us its h1 h2 => ⟨_, rfl, match us, h1, its, h2 with | [_, _, _], _, [_], _ => rfl⟩
  have hN : N13.Nodup := sc13.nd
  obtain ⟨fd, F⟩ := h.c.def_ 13 (d := d13) rfl
  exact ⟨fd, F, def_ok (G := gm K) (N := N13) (k := 4) (O' := []) F sc13 fun cdv A outer s H E hr tk => (s_one (s_ret (e_new tk (hr.mono (by decide)) nw5 bd5_3_b bd5_3_v (fun _ => .nil) (a_cons (e_un o_neg (e_fl [(0, 0)] (e_var 0) ht_fl_top)) (a_cons (e_fl [(0, 1)] (e_var 0) ht_fl_bottom) a_nil)))))⟩
theorem ok_14 {P : Program} {w : World} {K : PySem.W.Frag} {mg : Str → Option Value} {base : Heap} (h : Hy K mg base) : ∃ fd, FunD K d14.name d14.qual d14.params d14.body d14.scope (d14.dvs K) [] (d14.wh.ad K) fd ∧ FnB P w (gm K) mg base 7 (d14.wh.ad K) fd [("self" : PySem.Str), ("other" : PySem.Str)] 2 [] B_Ratio___sub__ := by
  obtain ⟨fd6, F6, ok6⟩ := ok_6 (P := P) (w := w) h
  obtain ⟨fd13, F13, ok13⟩ := ok_13 (P := P) (w := w) h
  obtain ⟨fd7, F7, ok7⟩ := ok_7 (P := P) (w := w) h
  have g6 : GlOk (gm K) P w mg base 5 ("ratio_from" : PySem.Str) 2 [] B_ratio_from _ fd6 [("value" : PySem.Str), ("part" : PySem.Str)] := ⟨He.glo_ok h.X0 h.G0 (h.c.fact 22), F6.kp, ok6, ar_of⟩
  have ht_neg : ∀ c B, List.lookup c [(0, B_Ratio___neg__)] = some B → ∃ f fd ps, OwnOk (gm K) P w mg base 5 "__neg__" c B f fd ps 1 := (lk_cons ⟨_, fd13, [("self" : PySem.Str)], (He.meth_ok (h.c.fact 45)).at_, (He.meth_ok (h.c.fact 45)).fn, fn_up ok13 (by decide), F13.bindsN (ps := [("self" : PySem.Str)]) fun _ _ _ _ _ _ us hl => match us, hl with | [_], _ => rfl, ar_of⟩ lk_nil)
  have ht_add : ∀ c B, List.lookup c [(0, B_Ratio___add__)] = some B → (∃ f fd ps, OwnOk (gm K) P w mg base 6 ("__add__" : PySem.Str) c B f fd ps 2) ∧ BinOk (gm K) ("__add__" : PySem.Str) ("__radd__" : PySem.Str) ["int"] [0, 1] c := (lk_cons ⟨⟨_, fd7, [("self" : PySem.Str), ("other" : PySem.Str)], (He.meth_ok (h.c.fact 28)).at_, (He.meth_ok (h.c.fact 28)).fn, fn_up ok7 (by decide), F7.bindsN (ps := [("self" : PySem.Str), ("other" : PySem.Str)]) fun _ _ _ _ _ _ us hl => match us, hl with | [_, _], _ => rfl, ar_of⟩, ⟨(h.c.fact 29), rd_ok (h.c.fact 30), (mem_cons ⟨by decide, biT_ok (h.c.fact 23)⟩ mem_nil), (mem_cons (.inl rfl) (mem_cons (.inr ⟨(sub_ok (h.c.fact 24)).2, (h.c.fact 25), ⟨_, (He.meth_ok (h.c.fact 26)).at_⟩, rd_ok (h.c.fact 27), (sub_ok (h.c.fact 24)).1⟩) mem_nil))⟩⟩ lk_nil)
  have hN : N14.Nodup := sc14.nd
  obtain ⟨fd, F⟩ := h.c.def_ 14 (d := d14) rfl
  exact ⟨fd, F, def_ok (G := gm K) (N := N14) (k := 6) (O' := []) F sc14 fun cdv A outer s H E hr tk => (s_one (s_ret (e_bin (o_bin [(0, B_Ratio___add__)] ["int"] [0, 1] tk (hr.mono (by decide)) o_add ht_add) (e_var 0) (e_un (o_negW [(0, B_Ratio___neg__)] tk (hr.mono (by decide)) o_neg ht_neg) (e_call tk (hr.mono (by decide)) g6 (F6.bindsN (ps := [("value" : PySem.Str), ("part" : PySem.Str)]) fun _ _ _ _ _ _ us hl => match us, hl with | [_, _], _ => rfl) .nil (fun _ => .nil) (a_cons (e_var 1) (a_cons e_str a_nil)))))))⟩
theorem ok_15 {P : Program} {w : World} {K : PySem.W.Frag} {mg : Str → Option Value} {base : Heap} (h : Hy K mg base) : ∃ fd, FunD K d15.name d15.qual d15.params d15.body d15.scope (d15.dvs K) [] (d15.wh.ad K) fd ∧ FnB P w (gm K) mg base 3 (d15.wh.ad K) fd [("value" : PySem.Str)] 1 [] B_is_ratio := by
  obtain ⟨fd4, F4, ok4⟩ := ok_4 (P := P) (w := w) h
  have m_isinstance : mg ("isinstance" : PySem.Str) = none := He.free_ok h.X0 h.G0 (h.c.fact 6)
  have g4 : GlOk (gm K) P w mg base 2 ("is_integer" : PySem.Str) 1 [] B_is_integer _ fd4 [("value" : PySem.Str)] := ⟨He.glo_ok h.X0 h.G0 (h.c.fact 14), F4.kp, ok4, ar_of⟩
  have hN : N15.Nodup := sc15.nd
  obtain ⟨fd, F⟩ := h.c.def_ 15 (d := d15) rfl
  exact ⟨fd, F, def_ok (G := gm K) (N := N15) (k := 2) (O' := []) F sc15 fun cdv A outer s H E hr tk => (s_one (s_ret (e_or (e_isi (e_var 0) (cv_own (He.glo_ok h.X0 h.G0 (h.c.fact 19))) (kn_own (k := 0) [(0, true), (1, false), (2, false)] (lk_cons ⟨ty0 h, eqF_ok (h.c.fact 18)⟩ (lk_cons ⟨ty1 h, eqF_ok (h.c.fact 17)⟩ (lk_cons ⟨ty2 h, eqF_ok (h.c.fact 16)⟩ lk_nil))) fun m hm => eqF_ok (List.all_eq_true.mp (h.c.fact 20) m hm))) (e_bo1 (e_call tk (hr.mono (by decide)) g4 (F4.bindsN (ps := [("value" : PySem.Str)]) fun _ _ _ _ _ _ us hl => match us, hl with | [_], _ => rfl) .nil (fun _ => .nil) (a_cons (e_var 0) a_nil))))))⟩
theorem ok_16 {P : Program} {w : World} {K : PySem.W.Frag} {mg : Str → Option Value} {base : Heap} (h : Hy K mg base) : ∃ fd, FunD K d16.name d16.qual d16.params d16.body d16.scope (d16.dvs K) [] (d16.wh.ad K) fd ∧ FnB P w (gm K) mg base 4 (d16.wh.ad K) fd [("value" : PySem.Str)] 1 [] B_are_ratios := by
  obtain ⟨fd11, F11, ok11⟩ := ok_11 (P := P) (w := w) h
  obtain ⟨fd15, F15, ok15⟩ := ok_15 (P := P) (w := w) h
  have g11 : GlOk (gm K) P w mg base 2 ("is_listed" : PySem.Str) 1 [] B_is_listed _ fd11 [("value" : PySem.Str)] := ⟨He.glo_ok h.X0 h.G0 (h.c.fact 46), F11.kp, ok11, ar_of⟩
  have m_all : mg ("all" : PySem.Str) = none := He.free_ok h.X0 h.G0 (h.c.fact 47)
  have g15 : GlOk (gm K) P w mg base 3 ("is_ratio" : PySem.Str) 1 [] B_is_ratio _ fd15 [("value" : PySem.Str)] := ⟨He.glo_ok h.X0 h.G0 (h.c.fact 48), F15.kp, ok15, ar_of⟩
  have hN : N16.Nodup := sc16.nd
  obtain ⟨fd, F⟩ := h.c.def_ 16 (d := d16) rfl
  exact ⟨fd, F, def_ok (G := gm K) (N := N16) (k := 3) (O' := []) F sc16 fun cdv A outer s H E hr tk => (s_one (s_ret (e_and (e_call tk (hr.mono (by decide)) g11 (F11.bindsN (ps := [("value" : PySem.Str)]) fun _ _ _ _ _ _ us hl => match us, hl with | [_], _ => rfl) .nil (fun _ => .nil) (a_cons (e_var 0) a_nil)) (e_bo1 (e_all (a_cons (e_lcF (vs := [1]) [(("each" : PySem.Str), 1)] rfl (i_seq (e_var 0)) (blkOk_by (by kernel_rfl)) (fun _ _ _ _ _ => (g_to (O2 := []) (g_name 1))) (fun _ _ _ _ _ => pts_no) (fun _ _ _ _ _ => (e_call takes_blk (hr.mono (by decide)) g15 (F15.bindsN (ps := [("value" : PySem.Str)]) fun _ _ _ _ _ _ us hl => match us, hl with | [_], _ => rfl) .nil (fun _ => .nil) (a_cons (e_var 1) a_nil)))).fz a_nil))))))⟩
theorem ok_17 {P : Program} {w : World} {K : PySem.W.Frag} {mg : Str → Option Value} {base : Heap} (h : Hy K mg base) : ∃ fd, FunD K d17.name d17.qual d17.params d17.body d17.scope (d17.dvs K) [] (d17.wh.ad K) fd ∧ FnB P w (gm K) mg base 7 (d17.wh.ad K) fd [("ratios" : PySem.Str)] 1 [] B_summed := by
  obtain ⟨fd16, F16, ok16⟩ := ok_16 (P := P) (w := w) h
  obtain ⟨fd5, F5, ok5⟩ := ok_5 (P := P) (w := w) h
  obtain ⟨fd7, F7, ok7⟩ := ok_7 (P := P) (w := w) h
  have g16 : GlOk (gm K) P w mg base 4 ("are_ratios" : PySem.Str) 1 [] B_are_ratios _ fd16 [("value" : PySem.Str)] := ⟨He.glo_ok h.X0 h.G0 (h.c.fact 49), F16.kp, ok16, ar_of⟩
  have nw5 : NwOk (gm K) P w mg base 3 ("Ratio" : PySem.Str) 0 3 B_Ratio___init__ _ fd5 [("self" : PySem.Str), ("top" : PySem.Str), ("bottom" : PySem.Str)] := ⟨He.glo_ok h.X0 h.G0 (h.c.fact 19), He.mkr_ok (h.c.fact 21), rfl, ok5, ar_of, rfl⟩
  obtain ⟨bd5_2, bd5_2_v, bd5_2_b⟩ := F5.binds1 (ps := [("self" : PySem.Str), ("top" : PySem.Str), ("bottom" : PySem.Str)]) 2 0 (List.cons_ne_nil _ _) rfl fun T kV doc pm an cdv ct us its h1 h2 => ⟨_, rfl, match us, h1, its, h2 with | [_, _], _, [_], _ => rfl⟩
  have ht_add : ∀ c B, List.lookup c [(0, B_Ratio___add__)] = some B → (∃ f fd ps, OwnOk (gm K) P w mg base 6 ("__add__" : PySem.Str) c B f fd ps 2) ∧ BinOk (gm K) ("__add__" : PySem.Str) ("__radd__" : PySem.Str) ["int"] [0, 1] c := (lk_cons ⟨⟨_, fd7, [("self" : PySem.Str), ("other" : PySem.Str)], (He.meth_ok (h.c.fact 28)).at_, (He.meth_ok (h.c.fact 28)).fn, fn_up ok7 (by decide), F7.bindsN (ps := [("self" : PySem.Str), ("other" : PySem.Str)]) fun _ _ _ _ _ _ us hl => match us, hl with | [_, _], _ => rfl, ar_of⟩, ⟨(h.c.fact 29), rd_ok (h.c.fact 30), (mem_cons ⟨by decide, biT_ok (h.c.fact 23)⟩ mem_nil), (mem_cons (.inl rfl) (mem_cons (.inr ⟨(sub_ok (h.c.fact 24)).2, (h.c.fact 25), ⟨_, (He.meth_ok (h.c.fact 26)).at_⟩, rd_ok (h.c.fact 27), (sub_ok (h.c.fact 24)).1⟩) mem_nil))⟩⟩ lk_nil)
  have hN : N17.Nodup := sc17.nd
  obtain ⟨fd, F⟩ := h.c.def_ 17 (d := d17) rfl
  exact ⟨fd, F, def_ok (G := gm K) (N := N17) (k := 6) (O' := []) F sc17 fun cdv A outer s H E hr tk => (s_cons (s_if (t_not (t_val (e_call tk (hr.mono (by decide)) g16 (F16.bindsN (ps := [("value" : PySem.Str)]) fun _ _ _ _ _ _ us hl => match us, hl with | [_], _ => rfl) .nil (fun _ => .nil) (a_cons (e_var 0) a_nil)))) (s_one s_no) s_nil) (s_cons (s_to (O2 := []) (s_set 1 (e_new tk (hr.mono (by decide)) nw5 bd5_2_b bd5_2_v (fun _ => (.cons .int .nil)) (a_cons e_int a_nil)))) (s_cons (s_for (OL := []) [2] (i_seq (e_var 0)) (g_to (O2 := []) (g_name 2)) (s_one (s_to (O2 := []) (s_set 1 (e_bin (o_bin [(0, B_Ratio___add__)] ["int"] [0, 1] tk (hr.mono (by decide)) o_add ht_add) (e_var 1) (e_var 2))))) (passes_of rfl)) (s_one (s_ret (e_var 1))))))⟩
theorem ok_18 {P : Program} {w : World} {K : PySem.W.Frag} {mg : Str → Option Value} {base : Heap} (h : Hy K mg base) : ∃ fd, FunD K d18.name d18.qual d18.params d18.body d18.scope (d18.dvs K) [] (d18.wh.ad K) fd ∧ FnB P w (gm K) mg base 8 (d18.wh.ad K) fd [("one" : PySem.Str), ("other" : PySem.Str)] 2 [] B_product_at := by
  obtain ⟨fd9, F9, ok9⟩ := ok_9 (P := P) (w := w) h
  obtain ⟨fd17, F17, ok17⟩ := ok_17 (P := P) (w := w) h
  obtain ⟨fd14, F14, ok14⟩ := ok_14 (P := P) (w := w) h
  have ht_fl_time : ∀ c i, List.lookup c [(1, 0)] = some i → ClsOk (gm K) c ∧ ((gm K).lay c)[i]? = some ("time" : PySem.Str) := (lk_cons ⟨co1 h, rfl⟩ lk_nil)
  have ht_mul : ∀ c B, List.lookup c [(0, B_Ratio___mul__)] = some B → (∃ f fd ps, OwnOk (gm K) P w mg base 6 ("__mul__" : PySem.Str) c B f fd ps 2) ∧ BinOk (gm K) ("__mul__" : PySem.Str) ("__rmul__" : PySem.Str) ["int"] [0, 1] c := (lk_cons ⟨⟨_, fd9, [("self" : PySem.Str), ("other" : PySem.Str)], (He.meth_ok (h.c.fact 35)).at_, (He.meth_ok (h.c.fact 35)).fn, fn_up ok9 (by decide), F9.bindsN (ps := [("self" : PySem.Str), ("other" : PySem.Str)]) fun _ _ _ _ _ _ us hl => match us, hl with | [_, _], _ => rfl, ar_of⟩, ⟨(h.c.fact 29), rd_ok (h.c.fact 36), (mem_cons ⟨by decide, biT_ok (h.c.fact 32)⟩ mem_nil), (mem_cons (.inl rfl) (mem_cons (.inr ⟨(sub_ok (h.c.fact 24)).2, (h.c.fact 25), ⟨_, (He.meth_ok (h.c.fact 33)).at_⟩, rd_ok (h.c.fact 34), (sub_ok (h.c.fact 24)).1⟩) mem_nil))⟩⟩ lk_nil)
  have g17 : GlOk (gm K) P w mg base 7 ("summed" : PySem.Str) 1 [] B_summed _ fd17 [("ratios" : PySem.Str)] := ⟨He.glo_ok h.X0 h.G0 (h.c.fact 50), F17.kp, ok17, ar_of⟩
  have m_zip : mg ("zip" : PySem.Str) = none := He.free_ok h.X0 h.G0 (h.c.fact 51)
  have ht_fl_place : ∀ c i, List.lookup c [(1, 1)] = some i → ClsOk (gm K) c ∧ ((gm K).lay c)[i]? = some ("place" : PySem.Str) := (lk_cons ⟨co1 h, rfl⟩ lk_nil)
  have ht_sub : ∀ c B, List.lookup c [(0, B_Ratio___sub__)] = some B → (∃ f fd ps, OwnOk (gm K) P w mg base 7 ("__sub__" : PySem.Str) c B f fd ps 2) ∧ BinOk (gm K) ("__sub__" : PySem.Str) ("__rsub__" : PySem.Str) ["int"] [0, 1] c := (lk_cons ⟨⟨_, fd14, [("self" : PySem.Str), ("other" : PySem.Str)], (He.meth_ok (h.c.fact 55)).at_, (He.meth_ok (h.c.fact 55)).fn, fn_up ok14 (by decide), F14.bindsN (ps := [("self" : PySem.Str), ("other" : PySem.Str)]) fun _ _ _ _ _ _ us hl => match us, hl with | [_, _], _ => rfl, ar_of⟩, ⟨(h.c.fact 29), rd_ok (h.c.fact 56), (mem_cons ⟨by decide, biT_ok (h.c.fact 52)⟩ mem_nil), (mem_cons (.inl rfl) (mem_cons (.inr ⟨(sub_ok (h.c.fact 24)).2, (h.c.fact 25), ⟨_, (He.meth_ok (h.c.fact 53)).at_⟩, rd_ok (h.c.fact 54), (sub_ok (h.c.fact 24)).1⟩) mem_nil))⟩⟩ lk_nil)
  have hN : N18.Nodup := sc18.nd
  obtain ⟨fd, F⟩ := h.c.def_ 18 (d := d18) rfl
  exact ⟨fd, F, def_ok (G := gm K) (N := N18) (k := 7) (O' := []) F sc18 fun cdv A outer s H E hr tk => (s_one (s_ret (e_bin (o_bin [(0, B_Ratio___sub__)] ["int"] [0, 1] tk (hr.mono (by decide)) o_sub ht_sub) (e_bin (o_bin [(0, B_Ratio___mul__)] ["int"] [0, 1] tk (hr.mono (by decide)) o_mul ht_mul) (e_fl [(1, 0)] (e_var 0) ht_fl_time) (e_fl [(1, 0)] (e_var 1) ht_fl_time)) (e_call tk (hr.mono (by decide)) g17 (F17.bindsN (ps := [("ratios" : PySem.Str)]) fun _ _ _ _ _ _ us hl => match us, hl with | [_], _ => rfl) .nil (fun _ => .nil) (a_cons (e_lcF (vs := [2, 3]) [(("mine" : PySem.Str), 2), (("its" : PySem.Str), 3)] rfl (i_zip (a_cons (e_fl [(1, 1)] (e_var 0) ht_fl_place) (a_cons (e_fl [(1, 1)] (e_var 1) ht_fl_place) a_nil))) (blkOk_by (by kernel_rfl)) (fun _ _ _ _ _ => (g_tup (gs_cons (g_to (O2 := []) (g_name 2)) (gs_cons (g_to (O2 := []) (g_name 3)) gs_nil)))) (fun _ _ _ _ _ => pts_no) (fun _ _ _ _ _ => (e_bin (o_bin [(0, B_Ratio___mul__)] ["int"] [0, 1] takes_blk (hr.mono (by decide)) o_mul ht_mul) (e_var 2) (e_var 3)))).fz a_nil)))))⟩
theorem ok_19 {P : Program} {w : World} {K : PySem.W.Frag} {mg : Str → Option Value} {base : Heap} (h : Hy K mg base) : ∃ fd, FunD K d19.name d19.qual d19.params d19.body d19.scope (d19.dvs K) [] (d19.wh.ad K) fd ∧ FnB P w (gm K) mg base 2 (d19.wh.ad K) fd [("self" : PySem.Str)] 1 [] B_Ratio_sign := by
  have m_int : mg ("int" : PySem.Str) = none := He.free_ok h.X0 h.G0 (h.c.fact 0)
  have ht_fl_top : ∀ c i, List.lookup c [(0, 0)] = some i → ClsOk (gm K) c ∧ ((gm K).lay c)[i]? = some ("top" : PySem.Str) := (lk_cons ⟨co0 h, rfl⟩ lk_nil)
  have hN : N19.Nodup := sc19.nd
  obtain ⟨fd, F⟩ := h.c.def_ 19 (d := d19) rfl
  exact ⟨fd, F, def_ok (G := gm K) (N := N19) (k := 1) (O' := []) F sc19 fun cdv A outer s H E hr tk => (s_one (s_ret (e_bin o_sub (e_toInt (a_cons (e_cmp o_gt (e_fl [(0, 0)] (e_var 0) ht_fl_top) e_int) a_nil)) (e_toInt (a_cons (e_cmp o_lt (e_fl [(0, 0)] (e_var 0) ht_fl_top) e_int) a_nil)))))⟩
theorem ok_20 {P : Program} {w : World} {K : PySem.W.Frag} {mg : Str → Option Value} {base : Heap} (h : Hy K mg base) : ∃ fd, FunD K d20.name d20.qual d20.params d20.body d20.scope (d20.dvs K) [] (d20.wh.ad K) fd ∧ FnB P w (gm K) mg base 4 (d20.wh.ad K) fd [("time" : PySem.Str), ("square" : PySem.Str)] 2 [] B_kind_by := by
  obtain ⟨fd19, F19, ok19⟩ := ok_19 (P := P) (w := w) h
  have pr_sign : ∀ c B, List.lookup c [(0, B_Ratio_sign)] = some B → PrOk (gm K) P w mg base 2 c ("sign" : PySem.Str) B := (lk_cons ⟨(clo0 h).1, _, _, fd19, _, prp_ok (h.c.fact 57), ok19, F19.bindsN (ps := [("self" : PySem.Str)]) fun _ _ _ _ _ _ us hl => match us, hl with | [_], _ => rfl⟩ lk_nil)
  have hN : N20.Nodup := sc20.nd
  obtain ⟨fd, F⟩ := h.c.def_ 20 (d := d20) rfl
  exact ⟨fd, F, def_ok (G := gm K) (N := N20) (k := 3) (O' := []) F sc20 fun cdv A outer s H E hr tk => (s_cons (s_if (t_cmp o_lt (e_pr [(0, B_Ratio_sign)] (hr.mono (by decide)) (e_var 1) pr_sign) e_int) (s_one (s_ret e_str)) s_nil) (s_cons (s_if (t_cmp (o_eq hr) (e_pr [(0, B_Ratio_sign)] (hr.mono (by decide)) (e_var 0) pr_sign) e_int) (s_one (s_ret e_str)) s_nil) (s_one (s_ret (e_if (t_cmp o_gt (e_pr [(0, B_Ratio_sign)] (hr.mono (by decide)) (e_var 0) pr_sign) e_int) e_str e_str)))))⟩
theorem ok_21 {P : Program} {w : World} {K : PySem.W.Frag} {mg : Str → Option Value} {base : Heap} (h : Hy K mg base) : ∃ fd, FunD K d21.name d21.qual d21.params d21.body d21.scope (d21.dvs K) [] (d21.wh.ad K) fd ∧ FnB P w (gm K) mg base 9 (d21.wh.ad K) fd [("self" : PySem.Str), ("time" : PySem.Str), ("place" : PySem.Str)] 3 [0] B_Step___init__ := by
  obtain ⟨fd15, F15, ok15⟩ := ok_15 (P := P) (w := w) h
  obtain ⟨fd16, F16, ok16⟩ := ok_16 (P := P) (w := w) h
  obtain ⟨fd12, F12, ok12⟩ := ok_12 (P := P) (w := w) h
  obtain ⟨fd18, F18, ok18⟩ := ok_18 (P := P) (w := w) h
  obtain ⟨fd20, F20, ok20⟩ := ok_20 (P := P) (w := w) h
  have g15 : GlOk (gm K) P w mg base 3 ("is_ratio" : PySem.Str) 1 [] B_is_ratio _ fd15 [("value" : PySem.Str)] := ⟨He.glo_ok h.X0 h.G0 (h.c.fact 48), F15.kp, ok15, ar_of⟩
  have g16 : GlOk (gm K) P w mg base 4 ("are_ratios" : PySem.Str) 1 [] B_are_ratios _ fd16 [("value" : PySem.Str)] := ⟨He.glo_ok h.X0 h.G0 (h.c.fact 49), F16.kp, ok16, ar_of⟩
  have m_len : mg ("len" : PySem.Str) = none := He.free_ok h.X0 h.G0 (h.c.fact 1)
  have st12 : StOk (gm K) P w mg base 6 ("Ratio" : PySem.Str) (He.ga K ("Ratio" : PySem.Str)) ("of" : PySem.Str) 1 B_Ratio_of _ fd12 [("value" : PySem.Str)] := ⟨He.glo_ok h.X0 h.G0 (h.c.fact 19), (sta_ok (h.c.fact 59)).1, (sta_ok (h.c.fact 59)).2.1, (sta_ok (h.c.fact 59)).2.2, F12.kp, ok12, ar_of⟩
  have ht_fs_time : ∀ c i, List.lookup c [(1, 0)] = some i → ClsOk (gm K) c ∧ ((gm K).lay c)[i]? = some ("time" : PySem.Str) := lk_cons ⟨co1 h, rfl⟩ lk_nil
  have m_tuple : mg ("tuple" : PySem.Str) = none := He.free_ok h.X0 h.G0 (h.c.fact 37)
  have ht_fs_place : ∀ c i, List.lookup c [(1, 1)] = some i → ClsOk (gm K) c ∧ ((gm K).lay c)[i]? = some ("place" : PySem.Str) := lk_cons ⟨co1 h, rfl⟩ lk_nil
  have ht_fl_place : ∀ c i, List.lookup c [(1, 1)] = some i → ClsOk (gm K) c ∧ ((gm K).lay c)[i]? = some ("place" : PySem.Str) := (lk_cons ⟨co1 h, rfl⟩ lk_nil)
  have ht_fs_axes : ∀ c i, List.lookup c [(1, 2)] = some i → ClsOk (gm K) c ∧ ((gm K).lay c)[i]? = some ("axes" : PySem.Str) := lk_cons ⟨co1 h, rfl⟩ lk_nil
  have g18 : GlOk (gm K) P w mg base 8 ("product_at" : PySem.Str) 2 [] B_product_at _ fd18 [("one" : PySem.Str), ("other" : PySem.Str)] := ⟨He.glo_ok h.X0 h.G0 (h.c.fact 60), F18.kp, ok18, ar_of⟩
  have ht_fs_square : ∀ c i, List.lookup c [(1, 3)] = some i → ClsOk (gm K) c ∧ ((gm K).lay c)[i]? = some ("square" : PySem.Str) := lk_cons ⟨co1 h, rfl⟩ lk_nil
  have g20 : GlOk (gm K) P w mg base 4 ("kind_by" : PySem.Str) 2 [] B_kind_by _ fd20 [("time" : PySem.Str), ("square" : PySem.Str)] := ⟨He.glo_ok h.X0 h.G0 (h.c.fact 61), F20.kp, ok20, ar_of⟩
  have ht_fl_time : ∀ c i, List.lookup c [(1, 0)] = some i → ClsOk (gm K) c ∧ ((gm K).lay c)[i]? = some ("time" : PySem.Str) := (lk_cons ⟨co1 h, rfl⟩ lk_nil)
  have ht_fl_square : ∀ c i, List.lookup c [(1, 3)] = some i → ClsOk (gm K) c ∧ ((gm K).lay c)[i]? = some ("square" : PySem.Str) := (lk_cons ⟨co1 h, rfl⟩ lk_nil)
  have ht_fs_kind : ∀ c i, List.lookup c [(1, 4)] = some i → ClsOk (gm K) c ∧ ((gm K).lay c)[i]? = some ("kind" : PySem.Str) := lk_cons ⟨co1 h, rfl⟩ lk_nil
  have hN : N21.Nodup := sc21.nd
  obtain ⟨fd, F⟩ := h.c.def_ 21 (d := d21) rfl
  exact ⟨fd, F, def_ok (G := gm K) (N := N21) (k := 8) (O' := [0]) F sc21 fun cdv A outer s H E hr tk => (s_cons (s_if (t_not (t_val (e_call tk (hr.mono (by decide)) g15 (F15.bindsN (ps := [("value" : PySem.Str)]) fun _ _ _ _ _ _ us hl => match us, hl with | [_], _ => rfl) .nil (fun _ => .nil) (a_cons (e_var 1) a_nil)))) (s_one s_no) s_nil) (s_cons (s_if (t_bo (w_or (t_not (t_val (e_call tk (hr.mono (by decide)) g16 (F16.bindsN (ps := [("value" : PySem.Str)]) fun _ _ _ _ _ _ us hl => match us, hl with | [_], _ => rfl) .nil (fun _ => .nil) (a_cons (e_var 2) a_nil)))) (w_or1 (t_not (t_chain o_le o_le e_int (e_len (a_cons (e_var 2) a_nil)) (e_gint (He.int_ok h.X0 h.G0 (h.c.fact 58)))))))) (s_one s_no) s_nil) (s_cons (s_fld 0 [(1, 0)] (e_stat tk (hr.mono (by decide)) st12 (F12.bindsN (ps := [("value" : PySem.Str)]) fun _ _ _ _ _ _ us hl => match us, hl with | [_], _ => rfl) .nil (fun _ => .nil) (a_cons (e_var 1) a_nil)) ht_fs_time) (s_cons (s_fld 0 [(1, 1)] (e_tuple (a_cons (e_lcF (vs := [3]) [(("each" : PySem.Str), 3)] rfl (i_seq (e_var 2)) (blkOk_by (by kernel_rfl)) (fun _ _ _ _ _ => (g_to (O2 := [0]) (g_name 3))) (fun _ _ _ _ _ => pts_no) (fun _ _ _ _ _ => (e_stat takes_blk (hr.mono (by decide)) st12 (F12.bindsN (ps := [("value" : PySem.Str)]) fun _ _ _ _ _ _ us hl => match us, hl with | [_], _ => rfl) .nil (fun _ => .nil) (a_cons (e_var 3) a_nil)))).fz a_nil)) ht_fs_place) (s_cons (s_fld 0 [(1, 2)] (e_len (a_cons (e_fl [(1, 1)] (e_self 0) ht_fl_place) a_nil)) ht_fs_axes) (s_cons (s_fld 0 [(1, 3)] (e_call tk (hr.mono (by decide)) g18 (F18.bindsN (ps := [("one" : PySem.Str), ("other" : PySem.Str)]) fun _ _ _ _ _ _ us hl => match us, hl with | [_, _], _ => rfl) .nil (fun _ => .nil) (a_cons (e_self 0) (a_cons (e_self 0) a_nil))) ht_fs_square) (s_one (s_fld 0 [(1, 4)] (e_call tk (hr.mono (by decide)) g20 (F20.bindsN (ps := [("time" : PySem.Str), ("square" : PySem.Str)]) fun _ _ _ _ _ _ us hl => match us, hl with | [_, _], _ => rfl) .nil (fun _ => .nil) (a_cons (e_fl [(1, 0)] (e_self 0) ht_fl_time) (a_cons (e_fl [(1, 3)] (e_self 0) ht_fl_square) a_nil))) ht_fs_kind))))))))⟩
theorem ok_22 {P : Program} {w : World} {K : PySem.W.Frag} {mg : Str → Option Value} {base : Heap} (h : Hy K mg base) : ∃ fd, FunD K d22.name d22.qual d22.params d22.body d22.scope (d22.dvs K) [] (d22.wh.ad K) fd ∧ FnB P w (gm K) mg base 11 (d22.wh.ad K) fd [("right" : PySem.Str), ("left" : PySem.Str)] 2 [] B_lit_spot := by
  obtain ⟨fd5, F5, ok5⟩ := ok_5 (P := P) (w := w) h
  obtain ⟨fd21, F21, ok21⟩ := ok_21 (P := P) (w := w) h
  obtain ⟨fd7, F7, ok7⟩ := ok_7 (P := P) (w := w) h
  obtain ⟨fd9, F9, ok9⟩ := ok_9 (P := P) (w := w) h
  obtain ⟨fd14, F14, ok14⟩ := ok_14 (P := P) (w := w) h
  have nw5 : NwOk (gm K) P w mg base 3 ("Ratio" : PySem.Str) 0 3 B_Ratio___init__ _ fd5 [("self" : PySem.Str), ("top" : PySem.Str), ("bottom" : PySem.Str)] := ⟨He.glo_ok h.X0 h.G0 (h.c.fact 19), He.mkr_ok (h.c.fact 21), rfl, ok5, ar_of, rfl⟩
  obtain ⟨bd5_3, bd5_3_v, bd5_3_b⟩ := F5.binds1 (ps := [("self" : PySem.Str), ("top" : PySem.Str), ("bottom" : PySem.Str)]) 3 1 (List.cons_ne_nil _ _) rfl fun T kV doc pm an cdv ct us its h1 h2 => ⟨_, rfl, match us, h1, its, h2 with | [_, _, _], _, [_], _ => rfl⟩
  have nw21 : NwOk (gm K) P w mg base 9 ("Step" : PySem.Str) 1 3 B_Step___init__ _ fd21 [("self" : PySem.Str), ("time" : PySem.Str), ("place" : PySem.Str)] := ⟨He.glo_ok h.X0 h.G0 (h.c.fact 62), He.mkr_ok (h.c.fact 63), rfl, ok21, ar_of, rfl⟩
  have ht_add : ∀ c B, List.lookup c [(0, B_Ratio___add__)] = some B → (∃ f fd ps, OwnOk (gm K) P w mg base 6 ("__add__" : PySem.Str) c B f fd ps 2) ∧ BinOk (gm K) ("__add__" : PySem.Str) ("__radd__" : PySem.Str) ["int"] [0, 1] c := (lk_cons ⟨⟨_, fd7, [("self" : PySem.Str), ("other" : PySem.Str)], (He.meth_ok (h.c.fact 28)).at_, (He.meth_ok (h.c.fact 28)).fn, fn_up ok7 (by decide), F7.bindsN (ps := [("self" : PySem.Str), ("other" : PySem.Str)]) fun _ _ _ _ _ _ us hl => match us, hl with | [_, _], _ => rfl, ar_of⟩, ⟨(h.c.fact 29), rd_ok (h.c.fact 30), (mem_cons ⟨by decide, biT_ok (h.c.fact 23)⟩ mem_nil), (mem_cons (.inl rfl) (mem_cons (.inr ⟨(sub_ok (h.c.fact 24)).2, (h.c.fact 25), ⟨_, (He.meth_ok (h.c.fact 26)).at_⟩, rd_ok (h.c.fact 27), (sub_ok (h.c.fact 24)).1⟩) mem_nil))⟩⟩ lk_nil)
  have ht_mul : ∀ c B, List.lookup c [(0, B_Ratio___mul__)] = some B → (∃ f fd ps, OwnOk (gm K) P w mg base 6 ("__mul__" : PySem.Str) c B f fd ps 2) ∧ BinOk (gm K) ("__mul__" : PySem.Str) ("__rmul__" : PySem.Str) ["int"] [0, 1] c := (lk_cons ⟨⟨_, fd9, [("self" : PySem.Str), ("other" : PySem.Str)], (He.meth_ok (h.c.fact 35)).at_, (He.meth_ok (h.c.fact 35)).fn, fn_up ok9 (by decide), F9.bindsN (ps := [("self" : PySem.Str), ("other" : PySem.Str)]) fun _ _ _ _ _ _ us hl => match us, hl with | [_, _], _ => rfl, ar_of⟩, ⟨(h.c.fact 29), rd_ok (h.c.fact 36), (mem_cons ⟨by decide, biT_ok (h.c.fact 32)⟩ mem_nil), (mem_cons (.inl rfl) (mem_cons (.inr ⟨(sub_ok (h.c.fact 24)).2, (h.c.fact 25), ⟨_, (He.meth_ok (h.c.fact 33)).at_⟩, rd_ok (h.c.fact 34), (sub_ok (h.c.fact 24)).1⟩) mem_nil))⟩⟩ lk_nil)
  have ht_sub : ∀ c B, List.lookup c [(0, B_Ratio___sub__)] = some B → (∃ f fd ps, OwnOk (gm K) P w mg base 7 ("__sub__" : PySem.Str) c B f fd ps 2) ∧ BinOk (gm K) ("__sub__" : PySem.Str) ("__rsub__" : PySem.Str) ["int"] [0, 1] c := (lk_cons ⟨⟨_, fd14, [("self" : PySem.Str), ("other" : PySem.Str)], (He.meth_ok (h.c.fact 55)).at_, (He.meth_ok (h.c.fact 55)).fn, fn_up ok14 (by decide), F14.bindsN (ps := [("self" : PySem.Str), ("other" : PySem.Str)]) fun _ _ _ _ _ _ us hl => match us, hl with | [_, _], _ => rfl, ar_of⟩, ⟨(h.c.fact 29), rd_ok (h.c.fact 56), (mem_cons ⟨by decide, biT_ok (h.c.fact 52)⟩ mem_nil), (mem_cons (.inl rfl) (mem_cons (.inr ⟨(sub_ok (h.c.fact 24)).2, (h.c.fact 25), ⟨_, (He.meth_ok (h.c.fact 53)).at_⟩, rd_ok (h.c.fact 54), (sub_ok (h.c.fact 24)).1⟩) mem_nil))⟩⟩ lk_nil)
  have hN : N22.Nodup := sc22.nd
  obtain ⟨fd, F⟩ := h.c.def_ 22 (d := d22) rfl
  exact ⟨fd, F, def_ok (G := gm K) (N := N22) (k := 10) (O' := []) F sc22 fun cdv A outer s H E hr tk => (s_cons (s_to (O2 := []) (s_set 2 (e_new tk (hr.mono (by decide)) nw5 bd5_3_b bd5_3_v (fun _ => .nil) (a_cons e_int (a_cons e_int a_nil))))) (s_one (s_ret (e_new tk (hr.mono (by decide)) nw21 (F21.bindsN (ps := [("self" : PySem.Str), ("time" : PySem.Str), ("place" : PySem.Str)]) fun _ _ _ _ _ _ us hl => match us, hl with | [_, _, _], _ => rfl) .nil (fun _ => .nil) (a_cons (e_bin (o_bin [(0, B_Ratio___mul__)] ["int"] [0, 1] tk (hr.mono (by decide)) o_mul ht_mul) (e_bin (o_bin [(0, B_Ratio___add__)] ["int"] [0, 1] tk (hr.mono (by decide)) o_add ht_add) (e_var 0) (e_var 1)) (e_var 2)) (a_cons (e_lst (a_cons (e_bin (o_bin [(0, B_Ratio___mul__)] ["int"] [0, 1] tk (hr.mono (by decide)) o_mul ht_mul) (e_bin (o_bin [(0, B_Ratio___sub__)] ["int"] [0, 1] tk (hr.mono (by decide)) o_sub ht_sub) (e_var 1) (e_var 0)) (e_var 2)) a_nil)) a_nil))))))⟩
theorem ok_23 {P : Program} {w : World} {K : PySem.W.Frag} {mg : Str → Option Value} {base : Heap} (h : Hy K mg base) : ∃ fd, FunD K d23.name d23.qual d23.params d23.body d23.scope (d23.dvs K) [] (d23.wh.ad K) fd ∧ FnB P w (gm K) mg base 7 (d23.wh.ad K) fd [("value" : PySem.Str)] 1 [] B_is_part := by
  obtain ⟨fd11, F11, ok11⟩ := ok_11 (P := P) (w := w) h
  obtain ⟨fd15, F15, ok15⟩ := ok_15 (P := P) (w := w) h
  obtain ⟨fd12, F12, ok12⟩ := ok_12 (P := P) (w := w) h
  obtain ⟨fd19, F19, ok19⟩ := ok_19 (P := P) (w := w) h
  have g11 : GlOk (gm K) P w mg base 2 ("is_listed" : PySem.Str) 1 [] B_is_listed _ fd11 [("value" : PySem.Str)] := ⟨He.glo_ok h.X0 h.G0 (h.c.fact 46), F11.kp, ok11, ar_of⟩
  have m_len : mg ("len" : PySem.Str) = none := He.free_ok h.X0 h.G0 (h.c.fact 1)
  have m_all : mg ("all" : PySem.Str) = none := He.free_ok h.X0 h.G0 (h.c.fact 47)
  have g15 : GlOk (gm K) P w mg base 3 ("is_ratio" : PySem.Str) 1 [] B_is_ratio _ fd15 [("value" : PySem.Str)] := ⟨He.glo_ok h.X0 h.G0 (h.c.fact 48), F15.kp, ok15, ar_of⟩
  have st12 : StOk (gm K) P w mg base 6 ("Ratio" : PySem.Str) (He.ga K ("Ratio" : PySem.Str)) ("of" : PySem.Str) 1 B_Ratio_of _ fd12 [("value" : PySem.Str)] := ⟨He.glo_ok h.X0 h.G0 (h.c.fact 19), (sta_ok (h.c.fact 59)).1, (sta_ok (h.c.fact 59)).2.1, (sta_ok (h.c.fact 59)).2.2, F12.kp, ok12, ar_of⟩
  have pr_sign : ∀ c B, List.lookup c [(0, B_Ratio_sign)] = some B → PrOk (gm K) P w mg base 2 c ("sign" : PySem.Str) B := (lk_cons ⟨(clo0 h).1, _, _, fd19, _, prp_ok (h.c.fact 57), ok19, F19.bindsN (ps := [("self" : PySem.Str)]) fun _ _ _ _ _ _ us hl => match us, hl with | [_], _ => rfl⟩ lk_nil)
  have hN : N23.Nodup := sc23.nd
  obtain ⟨fd, F⟩ := h.c.def_ 23 (d := d23) rfl
  exact ⟨fd, F, def_ok (G := gm K) (N := N23) (k := 6) (O' := []) F sc23 fun cdv A outer s H E hr tk => (s_one (s_ret (e_and (e_call tk (hr.mono (by decide)) g11 (F11.bindsN (ps := [("value" : PySem.Str)]) fun _ _ _ _ _ _ us hl => match us, hl with | [_], _ => rfl) .nil (fun _ => .nil) (a_cons (e_var 0) a_nil)) (e_and (e_cmp (o_eq hr) (e_len (a_cons (e_var 0) a_nil)) e_int) (e_bo1 (e_all (a_cons (e_lcF (vs := [1]) [(("one" : PySem.Str), 1)] rfl (i_seq (e_var 0)) (blkOk_by (by kernel_rfl)) (fun _ _ _ _ _ => (g_to (O2 := []) (g_name 1))) (fun _ _ _ _ _ => pts_no) (fun _ _ _ _ _ => (e_and (e_call takes_blk (hr.mono (by decide)) g15 (F15.bindsN (ps := [("value" : PySem.Str)]) fun _ _ _ _ _ _ us hl => match us, hl with | [_], _ => rfl) .nil (fun _ => .nil) (a_cons (e_var 1) a_nil)) (e_bo1 (e_cmp o_gt (e_pr [(0, B_Ratio_sign)] (hr.mono (by decide)) (e_stat takes_blk (hr.mono (by decide)) st12 (F12.bindsN (ps := [("value" : PySem.Str)]) fun _ _ _ _ _ _ us hl => match us, hl with | [_], _ => rfl) .nil (fun _ => .nil) (a_cons (e_var 1) a_nil)) pr_sign) e_int))))).fz a_nil)))))))⟩
theorem ok_24 {P : Program} {w : World} {K : PySem.W.Frag} {mg : Str → Option Value} {base : Heap} (h : Hy K mg base) : ∃ fd, FunD K d24.name d24.qual d24.params d24.body d24.scope (d24.dvs K) [] (d24.wh.ad K) fd ∧ FnB P w (gm K) mg base 12 (d24.wh.ad K) fd [("self" : PySem.Str), ("parts" : PySem.Str)] 2 [0] B_Tour___init__ := by
  obtain ⟨fd11, F11, ok11⟩ := ok_11 (P := P) (w := w) h
  obtain ⟨fd23, F23, ok23⟩ := ok_23 (P := P) (w := w) h
  obtain ⟨fd12, F12, ok12⟩ := ok_12 (P := P) (w := w) h
  obtain ⟨fd10, F10, ok10⟩ := ok_10 (P := P) (w := w) h
  obtain ⟨fd22, F22, ok22⟩ := ok_22 (P := P) (w := w) h
  have g11 : GlOk (gm K) P w mg base 2 ("is_listed" : PySem.Str) 1 [] B_is_listed _ fd11 [("value" : PySem.Str)] := ⟨He.glo_ok h.X0 h.G0 (h.c.fact 46), F11.kp, ok11, ar_of⟩
  have m_len : mg ("len" : PySem.Str) = none := He.free_ok h.X0 h.G0 (h.c.fact 1)
  have m_all : mg ("all" : PySem.Str) = none := He.free_ok h.X0 h.G0 (h.c.fact 47)
  have g23 : GlOk (gm K) P w mg base 7 ("is_part" : PySem.Str) 1 [] B_is_part _ fd23 [("value" : PySem.Str)] := ⟨He.glo_ok h.X0 h.G0 (h.c.fact 64), F23.kp, ok23, ar_of⟩
  have m_tuple : mg ("tuple" : PySem.Str) = none := He.free_ok h.X0 h.G0 (h.c.fact 37)
  have st12 : StOk (gm K) P w mg base 6 ("Ratio" : PySem.Str) (He.ga K ("Ratio" : PySem.Str)) ("of" : PySem.Str) 1 B_Ratio_of _ fd12 [("value" : PySem.Str)] := ⟨He.glo_ok h.X0 h.G0 (h.c.fact 19), (sta_ok (h.c.fact 59)).1, (sta_ok (h.c.fact 59)).2.1, (sta_ok (h.c.fact 59)).2.2, F12.kp, ok12, ar_of⟩
  have ht_fs_parts : ∀ c i, List.lookup c [(2, 0)] = some i → ClsOk (gm K) c ∧ ((gm K).lay c)[i]? = some ("parts" : PySem.Str) := lk_cons ⟨co2 h, rfl⟩ lk_nil
  have g10 : GlOk (gm K) P w mg base 7 ("lights_along" : PySem.Str) 1 [] B_lights_along _ fd10 [("parts" : PySem.Str)] := ⟨He.glo_ok h.X0 h.G0 (h.c.fact 66), F10.kp, ok10, ar_of⟩
  have ht_fl_parts : ∀ c i, List.lookup c [(2, 0)] = some i → ClsOk (gm K) c ∧ ((gm K).lay c)[i]? = some ("parts" : PySem.Str) := (lk_cons ⟨co2 h, rfl⟩ lk_nil)
  have g22 : GlOk (gm K) P w mg base 11 ("lit_spot" : PySem.Str) 2 [] B_lit_spot _ fd22 [("right" : PySem.Str), ("left" : PySem.Str)] := ⟨He.glo_ok h.X0 h.G0 (h.c.fact 67), F22.kp, ok22, ar_of⟩
  have ht_fs_spots : ∀ c i, List.lookup c [(2, 1)] = some i → ClsOk (gm K) c ∧ ((gm K).lay c)[i]? = some ("spots" : PySem.Str) := lk_cons ⟨co2 h, rfl⟩ lk_nil
  have ht_fs_age : ∀ c i, List.lookup c [(2, 2)] = some i → ClsOk (gm K) c ∧ ((gm K).lay c)[i]? = some ("age" : PySem.Str) := lk_cons ⟨co2 h, rfl⟩ lk_nil
  have ht_fl_spots : ∀ c i, List.lookup c [(2, 1)] = some i → ClsOk (gm K) c ∧ ((gm K).lay c)[i]? = some ("spots" : PySem.Str) := (lk_cons ⟨co2 h, rfl⟩ lk_nil)
  have ht_fs_step : ∀ c i, List.lookup c [(2, 3)] = some i → ClsOk (gm K) c ∧ ((gm K).lay c)[i]? = some ("step" : PySem.Str) := lk_cons ⟨co2 h, rfl⟩ lk_nil
  have hN : N24.Nodup := sc24.nd
  obtain ⟨fd, F⟩ := h.c.def_ 24 (d := d24) rfl
  exact ⟨fd, F, def_ok (G := gm K) (N := N24) (k := 11) (O' := [0]) F sc24 fun cdv A outer s H E hr tk => (s_cons (s_if (t_bo (w_or (t_not (t_val (e_call tk (hr.mono (by decide)) g11 (F11.bindsN (ps := [("value" : PySem.Str)]) fun _ _ _ _ _ _ us hl => match us, hl with | [_], _ => rfl) .nil (fun _ => .nil) (a_cons (e_var 1) a_nil)))) (w_or (t_cmp (o_eq hr) (e_len (a_cons (e_var 1) a_nil)) e_int) (w_or1 (t_not (t_val (e_all (a_cons (e_lcF (vs := [3]) [(("one" : PySem.Str), 3)] rfl (i_seq (e_var 1)) (blkOk_by (by kernel_rfl)) (fun _ _ _ _ _ => (g_to (O2 := [0]) (g_name 3))) (fun _ _ _ _ _ => pts_no) (fun _ _ _ _ _ => (e_call takes_blk (hr.mono (by decide)) g23 (F23.bindsN (ps := [("value" : PySem.Str)]) fun _ _ _ _ _ _ us hl => match us, hl with | [_], _ => rfl) .nil (fun _ => .nil) (a_cons (e_var 3) a_nil)))).fz a_nil)))))))) (s_one s_no) s_nil) (s_cons (s_if (t_cmp o_gt (e_len (a_cons (e_var 1) a_nil)) (e_gint (He.int_ok h.X0 h.G0 (h.c.fact 65)))) (s_one s_no) s_nil) (s_cons (s_fld 0 [(2, 0)] (e_tuple (a_cons (e_lcF (vs := [3]) [(("one" : PySem.Str), 3)] rfl (i_seq (e_var 1)) (blkOk_by (by kernel_rfl)) (fun _ _ _ _ _ => (g_to (O2 := [0]) (g_name 3))) (fun _ _ _ _ _ => pts_no) (fun _ _ _ _ _ => (e_tup (a_cons (e_stat takes_blk (hr.mono (by decide)) st12 (F12.bindsN (ps := [("value" : PySem.Str)]) fun _ _ _ _ _ _ us hl => match us, hl with | [_], _ => rfl) .nil (fun _ => .nil) (a_cons (e_ix (e_var 3) e_int) a_nil)) (a_cons (e_stat takes_blk (hr.mono (by decide)) st12 (F12.bindsN (ps := [("value" : PySem.Str)]) fun _ _ _ _ _ _ us hl => match us, hl with | [_], _ => rfl) .nil (fun _ => .nil) (a_cons (e_ix (e_var 3) e_int) a_nil)) a_nil))))).fz a_nil)) ht_fs_parts) (s_cons (s_to (O2 := [0]) (s_set 2 (e_call tk (hr.mono (by decide)) g10 (F10.bindsN (ps := [("parts" : PySem.Str)]) fun _ _ _ _ _ _ us hl => match us, hl with | [_], _ => rfl) .nil (fun _ => .nil) (a_cons (e_fl [(2, 0)] (e_self 0) ht_fl_parts) a_nil)))) (s_cons (s_fld 0 [(2, 1)] (e_tuple (a_cons (e_lcF (vs := [4, 5, 6]) [(("age" : PySem.Str), 4), (("right" : PySem.Str), 5), (("left" : PySem.Str), 6)] rfl (i_seq (e_var 2)) (blkOk_by (by kernel_rfl)) (fun _ _ _ _ _ => (g_tup (gs_cons (g_to (O2 := [0]) (g_name 4)) (gs_cons (g_to (O2 := [0]) (g_name 5)) (gs_cons (g_to (O2 := [0]) (g_name 6)) gs_nil))))) (fun _ _ _ _ _ => pts_no) (fun _ _ _ _ _ => (e_call takes_blk (hr.mono (by decide)) g22 (F22.bindsN (ps := [("right" : PySem.Str), ("left" : PySem.Str)]) fun _ _ _ _ _ _ us hl => match us, hl with | [_, _], _ => rfl) .nil (fun _ => .nil) (a_cons (e_var 5) (a_cons (e_var 6) a_nil))))).fz a_nil)) ht_fs_spots) (s_cons (s_fld 0 [(2, 2)] (e_ix (e_ix (e_var 2) (e_un o_neg e_int)) e_int) ht_fs_age) (s_one (s_fld 0 [(2, 3)] (e_ix (e_fl [(2, 1)] (e_self 0) ht_fl_spots) (e_un o_neg e_int)) ht_fs_step))))))))⟩
theorem ok_25 {P : Program} {w : World} {K : PySem.W.Frag} {mg : Str → Option Value} {base : Heap} (h : Hy K mg base) : ∃ fd, FunD K d25.name d25.qual d25.params d25.body d25.scope (d25.dvs K) [] (d25.wh.ad K) fd ∧ FnB P w (gm K) mg base 14 (d25.wh.ad K) fd [("_law_parts_here" : PySem.Str)] 1 [] B__law_tour := by
  obtain ⟨fd24, F24, ok24⟩ := ok_24 (P := P) (w := w) h
  obtain ⟨fd5, F5, ok5⟩ := ok_5 (P := P) (w := w) h
  have nw24 : NwOk (gm K) P w mg base 12 ("Tour" : PySem.Str) 2 2 B_Tour___init__ _ fd24 [("self" : PySem.Str), ("parts" : PySem.Str)] := ⟨He.glo_ok h.X0 h.G0 (h.c.fact 68), He.mkr_ok (h.c.fact 69), rfl, ok24, ar_of, rfl⟩
  have nw5 : NwOk (gm K) P w mg base 3 ("Ratio" : PySem.Str) 0 3 B_Ratio___init__ _ fd5 [("self" : PySem.Str), ("top" : PySem.Str), ("bottom" : PySem.Str)] := ⟨He.glo_ok h.X0 h.G0 (h.c.fact 19), He.mkr_ok (h.c.fact 21), rfl, ok5, ar_of, rfl⟩
  obtain ⟨bd5_3, bd5_3_v, bd5_3_b⟩ := F5.binds1 (ps := [("self" : PySem.Str), ("top" : PySem.Str), ("bottom" : PySem.Str)]) 3 1 (List.cons_ne_nil _ _) rfl fun T kV doc pm an cdv ct us its h1 h2 => ⟨_, rfl, match us, h1, its, h2 with | [_, _, _], _, [_], _ => rfl⟩
  have hN : N25.Nodup := sc25.nd
  obtain ⟨fd, F⟩ := h.c.def_ 25 (d := d25) rfl
  exact ⟨fd, F, def_ok (G := gm K) (N := N25) (k := 13) (O' := []) F sc25 fun cdv A outer s H E hr tk => (s_one (s_ret (e_new tk (hr.mono (by decide)) nw24 (F24.bindsN (ps := [("self" : PySem.Str), ("parts" : PySem.Str)]) fun _ _ _ _ _ _ us hl => match us, hl with | [_, _], _ => rfl) .nil (fun _ => .nil) (a_cons (e_lcF (vs := [1, 2]) [(("_law_ratio" : PySem.Str), 1), (("_law_beats" : PySem.Str), 2)] rfl (i_seq (e_var 0)) (blkOk_by (by kernel_rfl)) (fun _ _ _ _ _ => (g_tup (gs_cons (g_to (O2 := []) (g_name 1)) (gs_cons (g_to (O2 := []) (g_name 2)) gs_nil)))) (fun _ _ _ _ _ => pts_no) (fun _ _ _ _ _ => (e_tup (a_cons (e_new takes_blk (hr.mono (by decide)) nw5 bd5_3_b bd5_3_v (fun _ => .nil) (a_cons (e_ix (e_var 1) e_int) (a_cons (e_ix (e_var 1) e_int) a_nil))) (a_cons (e_new takes_blk (hr.mono (by decide)) nw5 bd5_3_b bd5_3_v (fun _ => .nil) (a_cons (e_ix (e_var 2) e_int) (a_cons (e_ix (e_var 2) e_int) a_nil))) a_nil))))).fz a_nil))))⟩
theorem ok_26 {P : Program} {w : World} {K : PySem.W.Frag} {mg : Str → Option Value} {base : Heap} (h : Hy K mg base) : ∃ fd, FunD K d26.name d26.qual d26.params d26.body d26.scope (d26.dvs K) [] (d26.wh.ad K) fd ∧ FnB P w (gm K) mg base 2 (d26.wh.ad K) fd [("_law_one" : PySem.Str), ("_law_other" : PySem.Str)] 2 [] B__law_plus := by
  have hN : N26.Nodup := sc26.nd
  obtain ⟨fd, F⟩ := h.c.def_ 26 (d := d26) rfl
  exact ⟨fd, F, def_ok (G := gm K) (N := N26) (k := 1) (O' := []) F sc26 fun cdv A outer s H E hr tk => (s_cons (s_if (t_cmp (o_eq hr) (e_ix (e_var 0) e_int) (e_ix (e_var 1) e_int)) (s_one (s_ret (e_tup (a_cons (e_bin o_add (e_ix (e_var 0) e_int) (e_ix (e_var 1) e_int)) (a_cons (e_ix (e_var 0) e_int) a_nil))))) s_nil) (s_one (s_ret (e_tup (a_cons (e_bin o_add (e_bin o_mul (e_ix (e_var 0) e_int) (e_ix (e_var 1) e_int)) (e_bin o_mul (e_ix (e_var 1) e_int) (e_ix (e_var 0) e_int))) (a_cons (e_bin o_mul (e_ix (e_var 0) e_int) (e_ix (e_var 1) e_int)) a_nil))))))⟩
theorem ok_27 {P : Program} {w : World} {K : PySem.W.Frag} {mg : Str → Option Value} {base : Heap} (h : Hy K mg base) : ∃ fd, FunD K d27.name d27.qual d27.params d27.body d27.scope (d27.dvs K) [] (d27.wh.ad K) fd ∧ FnB P w (gm K) mg base 3 (d27.wh.ad K) fd [("_law_parts_here" : PySem.Str)] 1 [] B__law_lights := by
  obtain ⟨fd26, F26, ok26⟩ := ok_26 (P := P) (w := w) h
  have g26 : GlOk (gm K) P w mg base 2 ("_law_plus" : PySem.Str) 2 [] B__law_plus _ fd26 [("_law_one" : PySem.Str), ("_law_other" : PySem.Str)] := ⟨He.glo_ok h.X0 h.G0 (h.c.fact 70), F26.kp, ok26, ar_of⟩
  have hN : N27.Nodup := sc27.nd
  obtain ⟨fd, F⟩ := h.c.def_ 27 (d := d27) rfl
  exact ⟨fd, F, def_ok (G := gm K) (N := N27) (k := 2) (O' := []) F sc27 fun cdv A outer s H E hr tk => (s_cons (s_to (O2 := [1]) (s_setF 1 (f_lst (a_cons (e_tup (a_cons (e_tup (a_cons e_int (a_cons e_int a_nil))) (a_cons (e_tup (a_cons e_int (a_cons e_int a_nil))) (a_cons (e_tup (a_cons e_int (a_cons e_int a_nil))) a_nil)))) a_nil)))) (s_cons (s_for (OL := [1]) [2, 3, 4] (i_seq (e_var 0)) (g_tup (gs_cons (g_tup (gs_cons (g_to (O2 := [1]) (g_name 3)) (gs_cons (g_to (O2 := [1]) (g_name 4)) gs_nil))) (gs_cons (g_to (O2 := [1]) (g_name 2)) gs_nil))) (s_cons (s_asg (vs := [0, 1, 2, 3, 4, 5, 6, 7]) (e_ixO 1 (e_un o_neg e_int)) (g_tup (gs_cons (g_to (O2 := [1]) (g_name 5)) (gs_cons (g_to (O2 := [1]) (g_name 6)) (gs_cons (g_to (O2 := [1]) (g_name 7)) gs_nil))))) (s_cons (s_to (O2 := [1]) (s_set 6 (e_call tk (hr.mono (by decide)) g26 (F26.bindsN (ps := [("_law_one" : PySem.Str), ("_law_other" : PySem.Str)]) fun _ _ _ _ _ _ us hl => match us, hl with | [_, _], _ => rfl) .nil (fun _ => .nil) (a_cons (e_var 6) (a_cons (e_tup (a_cons (e_bin o_mul (e_ix (e_var 2) e_int) (e_var 4)) (a_cons (e_bin o_mul (e_ix (e_var 2) e_int) (e_var 3)) a_nil))) a_nil))))) (s_one (s_app 1 (e_tup (a_cons (e_call tk (hr.mono (by decide)) g26 (F26.bindsN (ps := [("_law_one" : PySem.Str), ("_law_other" : PySem.Str)]) fun _ _ _ _ _ _ us hl => match us, hl with | [_, _], _ => rfl) .nil (fun _ => .nil) (a_cons (e_var 5) (a_cons (e_var 2) a_nil))) (a_cons (e_var 6) (a_cons (e_call tk (hr.mono (by decide)) g26 (F26.bindsN (ps := [("_law_one" : PySem.Str), ("_law_other" : PySem.Str)]) fun _ _ _ _ _ _ us hl => match us, hl with | [_, _], _ => rfl) .nil (fun _ => .nil) (a_cons (e_var 7) (a_cons (e_tup (a_cons (e_bin o_mul (e_ix (e_var 2) e_int) (e_var 3)) (a_cons (e_bin o_mul (e_ix (e_var 2) e_int) (e_var 4)) a_nil))) a_nil))) a_nil)))))))) (passes_of rfl)) (ss_frz (O1 := []) (s_one (s_ret (e_var 1))))))⟩
theorem ok_28 {P : Program} {w : World} {K : PySem.W.Frag} {mg : Str → Option Value} {base : Heap} (h : Hy K mg base) : ∃ fd, FunD K d28.name d28.qual d28.params d28.body d28.scope (d28.dvs K) [] (d28.wh.ad K) fd ∧ FnB P w (gm K) mg base 3 (d28.wh.ad K) fd [("self" : PySem.Str), ("other" : PySem.Str)] 2 [] B_Ratio___eq__ := by
  obtain ⟨fd4, F4, ok4⟩ := ok_4 (P := P) (w := w) h
  have m_isinstance : mg ("isinstance" : PySem.Str) = none := He.free_ok h.X0 h.G0 (h.c.fact 6)
  have ht_fl_top : ∀ c i, List.lookup c [(0, 0)] = some i → ClsOk (gm K) c ∧ ((gm K).lay c)[i]? = some ("top" : PySem.Str) := (lk_cons ⟨co0 h, rfl⟩ lk_nil)
  have ht_fl_bottom : ∀ c i, List.lookup c [(0, 1)] = some i → ClsOk (gm K) c ∧ ((gm K).lay c)[i]? = some ("bottom" : PySem.Str) := (lk_cons ⟨co0 h, rfl⟩ lk_nil)
  have g4 : GlOk (gm K) P w mg base 2 ("is_integer" : PySem.Str) 1 [] B_is_integer _ fd4 [("value" : PySem.Str)] := ⟨He.glo_ok h.X0 h.G0 (h.c.fact 14), F4.kp, ok4, ar_of⟩
  have hN : N28.Nodup := sc28.nd
  obtain ⟨fd, F⟩ := h.c.def_ 28 (d := d28) rfl
  exact ⟨fd, F, def_ok (G := gm K) (N := N28) (k := 2) (O' := []) F sc28 fun cdv A outer s H E hr tk => (s_cons (s_if (t_val (e_isi (e_var 1) (cv_own (He.glo_ok h.X0 h.G0 (h.c.fact 19))) (kn_own (k := 0) [(0, true), (1, false), (2, false)] (lk_cons ⟨ty0 h, eqF_ok (h.c.fact 18)⟩ (lk_cons ⟨ty1 h, eqF_ok (h.c.fact 17)⟩ (lk_cons ⟨ty2 h, eqF_ok (h.c.fact 16)⟩ lk_nil))) fun m hm => eqF_ok (List.all_eq_true.mp (h.c.fact 20) m hm)))) (s_one (s_ret (e_and (e_cmp (o_eq hr) (e_fl [(0, 0)] (e_var 0) ht_fl_top) (e_fl [(0, 0)] (e_var 1) ht_fl_top)) (e_bo1 (e_cmp (o_eq hr) (e_fl [(0, 1)] (e_var 0) ht_fl_bottom) (e_fl [(0, 1)] (e_var 1) ht_fl_bottom)))))) s_nil) (s_one (s_ret (e_and (e_call tk (hr.mono (by decide)) g4 (F4.bindsN (ps := [("value" : PySem.Str)]) fun _ _ _ _ _ _ us hl => match us, hl with | [_], _ => rfl) .nil (fun _ => .nil) (a_cons (e_var 1) a_nil)) (e_and (e_cmp (o_eq hr) (e_fl [(0, 1)] (e_var 0) ht_fl_bottom) e_int) (e_bo1 (e_cmp (o_eq hr) (e_fl [(0, 0)] (e_var 0) ht_fl_top) (e_var 1))))))))⟩
theorem ok_29 {P : Program} {w : World} {K : PySem.W.Frag} {mg : Str → Option Value} {base : Heap} (h : Hy K mg base) : ∃ fd, FunD K d29.name d29.qual d29.params d29.body d29.scope (d29.dvs K) [] (d29.wh.ad K) fd ∧ FnB P w (gm K) mg base 5 (d29.wh.ad K) fd [("self" : PySem.Str), ("other" : PySem.Str)] 2 [] B_Step___eq__ := by
  obtain ⟨fd28, F28, ok28⟩ := ok_28 (P := P) (w := w) h
  have m_isinstance : mg ("isinstance" : PySem.Str) = none := He.free_ok h.X0 h.G0 (h.c.fact 6)
  have ht_fl_time : ∀ c i, List.lookup c [(1, 0)] = some i → ClsOk (gm K) c ∧ ((gm K).lay c)[i]? = some ("time" : PySem.Str) := (lk_cons ⟨co1 h, rfl⟩ lk_nil)
  have ht_eq : ∀ c B, List.lookup c [(0, B_Ratio___eq__)] = some B → (∃ f fd ps, OwnOk (gm K) P w mg base 3 ("__eq__" : PySem.Str) c B f fd ps 2) ∧ CmpOk (gm K) ["int"] [0, 1, 2] c := (lk_cons ⟨⟨_, fd28, [("self" : PySem.Str), ("other" : PySem.Str)], (He.meth_ok (h.c.fact 79)).at_, (He.meth_ok (h.c.fact 79)).fn, fn_up ok28 (by decide), F28.bindsN (ps := [("self" : PySem.Str), ("other" : PySem.Str)]) fun _ _ _ _ _ _ us hl => match us, hl with | [_, _], _ => rfl, ar_of⟩, ⟨(mem_cons ⟨by decide, (h.c.fact 75)⟩ mem_nil), (mem_cons (h.c.fact 78) (mem_cons (h.c.fact 77) (mem_cons (h.c.fact 76) mem_nil)))⟩⟩ lk_nil)
  have ht_fl_place : ∀ c i, List.lookup c [(1, 1)] = some i → ClsOk (gm K) c ∧ ((gm K).lay c)[i]? = some ("place" : PySem.Str) := (lk_cons ⟨co1 h, rfl⟩ lk_nil)
  have hN : N29.Nodup := sc29.nd
  obtain ⟨fd, F⟩ := h.c.def_ 29 (d := d29) rfl
  exact ⟨fd, F, def_ok (G := gm K) (N := N29) (k := 4) (O' := []) F sc29 fun cdv A outer s H E hr tk => (s_one (s_ret (e_and (e_isi (e_var 1) (cv_own (He.glo_ok h.X0 h.G0 (h.c.fact 62))) (kn_own (k := 1) [(0, false), (1, true), (2, false)] (lk_cons ⟨ty0 h, eqF_ok (h.c.fact 73)⟩ (lk_cons ⟨ty1 h, eqF_ok (h.c.fact 72)⟩ (lk_cons ⟨ty2 h, eqF_ok (h.c.fact 71)⟩ lk_nil))) fun m hm => eqF_ok (List.all_eq_true.mp (h.c.fact 74) m hm))) (e_and (e_cmp (o_eqT [(0, B_Ratio___eq__)] ["int"] [0, 1, 2] tk (hr.mono (by decide)) ht_eq) (e_fl [(1, 0)] (e_var 0) ht_fl_time) (e_fl [(1, 0)] (e_var 1) ht_fl_time)) (e_bo1 (e_cmp (o_eqT [(0, B_Ratio___eq__)] ["int"] [0, 1, 2] tk (hr.mono (by decide)) ht_eq) (e_fl [(1, 1)] (e_var 0) ht_fl_place) (e_fl [(1, 1)] (e_var 1) ht_fl_place)))))))⟩
theorem ok_30 {P : Program} {w : World} {K : PySem.W.Frag} {mg : Str → Option Value} {base : Heap} (h : Hy K mg base) : ∃ fd, FunD K d30.name d30.qual d30.params d30.body d30.scope (d30.dvs K) [] (d30.wh.ad K) fd ∧ FnB P w (gm K) mg base 2 (d30.wh.ad K) fd [("value" : PySem.Str), ("part" : PySem.Str)] 2 [] B_need_tour := by
  have m_isinstance : mg ("isinstance" : PySem.Str) = none := He.free_ok h.X0 h.G0 (h.c.fact 6)
  have hN : N30.Nodup := sc30.nd
  obtain ⟨fd, F⟩ := h.c.def_ 30 (d := d30) rfl
  exact ⟨fd, F, def_ok (G := gm K) (N := N30) (k := 1) (O' := []) F sc30 fun cdv A outer s H E hr tk => (s_one (s_if (t_not (t_val (e_isi (e_var 0) (cv_own (He.glo_ok h.X0 h.G0 (h.c.fact 68))) (kn_own (k := 2) [(0, false), (1, false), (2, true)] (lk_cons ⟨ty0 h, eqF_ok (h.c.fact 82)⟩ (lk_cons ⟨ty1 h, eqF_ok (h.c.fact 81)⟩ (lk_cons ⟨ty2 h, eqF_ok (h.c.fact 80)⟩ lk_nil))) fun m hm => eqF_ok (List.all_eq_true.mp (h.c.fact 83) m hm))))) (s_one s_no) s_nil))⟩
theorem ok_31 {P : Program} {w : World} {K : PySem.W.Frag} {mg : Str → Option Value} {base : Heap} (h : Hy K mg base) : ∃ fd, FunD K d31.name d31.qual d31.params d31.body d31.scope (d31.dvs K) [] (d31.wh.ad K) fd ∧ FnB P w (gm K) mg base 8 (d31.wh.ad K) fd [("self" : PySem.Str), ("other" : PySem.Str)] 2 [] B_Ratio_is_below := by
  obtain ⟨fd6, F6, ok6⟩ := ok_6 (P := P) (w := w) h
  obtain ⟨fd14, F14, ok14⟩ := ok_14 (P := P) (w := w) h
  obtain ⟨fd19, F19, ok19⟩ := ok_19 (P := P) (w := w) h
  have g6 : GlOk (gm K) P w mg base 5 ("ratio_from" : PySem.Str) 2 [] B_ratio_from _ fd6 [("value" : PySem.Str), ("part" : PySem.Str)] := ⟨He.glo_ok h.X0 h.G0 (h.c.fact 22), F6.kp, ok6, ar_of⟩
  have ht_sub : ∀ c B, List.lookup c [(0, B_Ratio___sub__)] = some B → (∃ f fd ps, OwnOk (gm K) P w mg base 7 ("__sub__" : PySem.Str) c B f fd ps 2) ∧ BinOk (gm K) ("__sub__" : PySem.Str) ("__rsub__" : PySem.Str) ["int"] [0, 1] c := (lk_cons ⟨⟨_, fd14, [("self" : PySem.Str), ("other" : PySem.Str)], (He.meth_ok (h.c.fact 55)).at_, (He.meth_ok (h.c.fact 55)).fn, fn_up ok14 (by decide), F14.bindsN (ps := [("self" : PySem.Str), ("other" : PySem.Str)]) fun _ _ _ _ _ _ us hl => match us, hl with | [_, _], _ => rfl, ar_of⟩, ⟨(h.c.fact 29), rd_ok (h.c.fact 56), (mem_cons ⟨by decide, biT_ok (h.c.fact 52)⟩ mem_nil), (mem_cons (.inl rfl) (mem_cons (.inr ⟨(sub_ok (h.c.fact 24)).2, (h.c.fact 25), ⟨_, (He.meth_ok (h.c.fact 53)).at_⟩, rd_ok (h.c.fact 54), (sub_ok (h.c.fact 24)).1⟩) mem_nil))⟩⟩ lk_nil)
  have pr_sign : ∀ c B, List.lookup c [(0, B_Ratio_sign)] = some B → PrOk (gm K) P w mg base 2 c ("sign" : PySem.Str) B := (lk_cons ⟨(clo0 h).1, _, _, fd19, _, prp_ok (h.c.fact 57), ok19, F19.bindsN (ps := [("self" : PySem.Str)]) fun _ _ _ _ _ _ us hl => match us, hl with | [_], _ => rfl⟩ lk_nil)
  have hN : N31.Nodup := sc31.nd
  obtain ⟨fd, F⟩ := h.c.def_ 31 (d := d31) rfl
  exact ⟨fd, F, def_ok (G := gm K) (N := N31) (k := 7) (O' := []) F sc31 fun cdv A outer s H E hr tk => (s_one (s_ret (e_cmp o_lt (e_pr [(0, B_Ratio_sign)] (hr.mono (by decide)) (e_bin (o_bin [(0, B_Ratio___sub__)] ["int"] [0, 1] tk (hr.mono (by decide)) o_sub ht_sub) (e_var 0) (e_call tk (hr.mono (by decide)) g6 (F6.bindsN (ps := [("value" : PySem.Str), ("part" : PySem.Str)]) fun _ _ _ _ _ _ us hl => match us, hl with | [_, _], _ => rfl) .nil (fun _ => .nil) (a_cons (e_var 1) (a_cons e_str a_nil)))) pr_sign) e_int)))⟩
theorem ok_32 {P : Program} {w : World} {K : PySem.W.Frag} {mg : Str → Option Value} {base : Heap} (h : Hy K mg base) : ∃ fd, FunD K d32.name d32.qual d32.params d32.body d32.scope (d32.dvs K) [] (d32.wh.ad K) fd ∧ FnB P w (gm K) mg base 12 (d32.wh.ad K) fd [("tour" : PySem.Str), ("age" : PySem.Str)] 2 [] B_spot_at := by
  obtain ⟨fd30, F30, ok30⟩ := ok_30 (P := P) (w := w) h
  obtain ⟨fd15, F15, ok15⟩ := ok_15 (P := P) (w := w) h
  obtain ⟨fd12, F12, ok12⟩ := ok_12 (P := P) (w := w) h
  obtain ⟨fd19, F19, ok19⟩ := ok_19 (P := P) (w := w) h
  obtain ⟨fd31, F31, ok31⟩ := ok_31 (P := P) (w := w) h
  obtain ⟨fd14, F14, ok14⟩ := ok_14 (P := P) (w := w) h
  obtain ⟨fd10, F10, ok10⟩ := ok_10 (P := P) (w := w) h
  obtain ⟨fd22, F22, ok22⟩ := ok_22 (P := P) (w := w) h
  have g30 : GlOk (gm K) P w mg base 2 ("need_tour" : PySem.Str) 2 [] B_need_tour _ fd30 [("value" : PySem.Str), ("part" : PySem.Str)] := ⟨He.glo_ok h.X0 h.G0 (h.c.fact 84), F30.kp, ok30, ar_of⟩
  have g15 : GlOk (gm K) P w mg base 3 ("is_ratio" : PySem.Str) 1 [] B_is_ratio _ fd15 [("value" : PySem.Str)] := ⟨He.glo_ok h.X0 h.G0 (h.c.fact 48), F15.kp, ok15, ar_of⟩
  have st12 : StOk (gm K) P w mg base 6 ("Ratio" : PySem.Str) (He.ga K ("Ratio" : PySem.Str)) ("of" : PySem.Str) 1 B_Ratio_of _ fd12 [("value" : PySem.Str)] := ⟨He.glo_ok h.X0 h.G0 (h.c.fact 19), (sta_ok (h.c.fact 59)).1, (sta_ok (h.c.fact 59)).2.1, (sta_ok (h.c.fact 59)).2.2, F12.kp, ok12, ar_of⟩
  have pr_sign : ∀ c B, List.lookup c [(0, B_Ratio_sign)] = some B → PrOk (gm K) P w mg base 2 c ("sign" : PySem.Str) B := (lk_cons ⟨(clo0 h).1, _, _, fd19, _, prp_ok (h.c.fact 57), ok19, F19.bindsN (ps := [("self" : PySem.Str)]) fun _ _ _ _ _ _ us hl => match us, hl with | [_], _ => rfl⟩ lk_nil)
  have mt_is_below_1 : ∀ c B, List.lookup c [(0, B_Ratio_is_below)] = some B → ∃ n f fd ps ds dvs, MtOk (gm K) P w mg base 8 c ("is_below" : PySem.Str) n B f fd ps ds dvs ∧ ∀ F, RepL (gm K) F [] dvs := (lk_cons ⟨2, _, fd31, [("self" : PySem.Str), ("other" : PySem.Str)], _, _, ⟨(clo0 h).1, He.meth_ok (h.c.fact 85), fn_up ok31 (by decide), ar_of, (F31.bindsN (ps := [("self" : PySem.Str), ("other" : PySem.Str)]) fun _ _ _ _ _ _ us hl => match us, hl with | [_, _], _ => rfl), .nil⟩, (fun _ => .nil)⟩ lk_nil)
  have ht_fl_age : ∀ c i, List.lookup c [(2, 2)] = some i → ClsOk (gm K) c ∧ ((gm K).lay c)[i]? = some ("age" : PySem.Str) := (lk_cons ⟨co2 h, rfl⟩ lk_nil)
  have ht_fl_parts : ∀ c i, List.lookup c [(2, 0)] = some i → ClsOk (gm K) c ∧ ((gm K).lay c)[i]? = some ("parts" : PySem.Str) := (lk_cons ⟨co2 h, rfl⟩ lk_nil)
  have ht_sub : ∀ c B, List.lookup c [(0, B_Ratio___sub__)] = some B → (∃ f fd ps, OwnOk (gm K) P w mg base 7 ("__sub__" : PySem.Str) c B f fd ps 2) ∧ BinOk (gm K) ("__sub__" : PySem.Str) ("__rsub__" : PySem.Str) ["int"] [0, 1] c := (lk_cons ⟨⟨_, fd14, [("self" : PySem.Str), ("other" : PySem.Str)], (He.meth_ok (h.c.fact 55)).at_, (He.meth_ok (h.c.fact 55)).fn, fn_up ok14 (by decide), F14.bindsN (ps := [("self" : PySem.Str), ("other" : PySem.Str)]) fun _ _ _ _ _ _ us hl => match us, hl with | [_, _], _ => rfl, ar_of⟩, ⟨(h.c.fact 29), rd_ok (h.c.fact 56), (mem_cons ⟨by decide, biT_ok (h.c.fact 52)⟩ mem_nil), (mem_cons (.inl rfl) (mem_cons (.inr ⟨(sub_ok (h.c.fact 24)).2, (h.c.fact 25), ⟨_, (He.meth_ok (h.c.fact 53)).at_⟩, rd_ok (h.c.fact 54), (sub_ok (h.c.fact 24)).1⟩) mem_nil))⟩⟩ lk_nil)
  have g10 : GlOk (gm K) P w mg base 7 ("lights_along" : PySem.Str) 1 [] B_lights_along _ fd10 [("parts" : PySem.Str)] := ⟨He.glo_ok h.X0 h.G0 (h.c.fact 66), F10.kp, ok10, ar_of⟩
  have g22 : GlOk (gm K) P w mg base 11 ("lit_spot" : PySem.Str) 2 [] B_lit_spot _ fd22 [("right" : PySem.Str), ("left" : PySem.Str)] := ⟨He.glo_ok h.X0 h.G0 (h.c.fact 67), F22.kp, ok22, ar_of⟩
  have hN : N32.Nodup := sc32.nd
  obtain ⟨fd, F⟩ := h.c.def_ 32 (d := d32) rfl
  exact ⟨fd, F, def_ok (G := gm K) (N := N32) (k := 11) (O' := []) F sc32 fun cdv A outer s H E hr tk => (s_cons (s_expr (e_call tk (hr.mono (by decide)) g30 (F30.bindsN (ps := [("value" : PySem.Str), ("part" : PySem.Str)]) fun _ _ _ _ _ _ us hl => match us, hl with | [_, _], _ => rfl) .nil (fun _ => .nil) (a_cons (e_var 0) (a_cons e_str a_nil)))) (s_cons (s_if (t_bo (w_or (t_not (t_val (e_call tk (hr.mono (by decide)) g15 (F15.bindsN (ps := [("value" : PySem.Str)]) fun _ _ _ _ _ _ us hl => match us, hl with | [_], _ => rfl) .nil (fun _ => .nil) (a_cons (e_var 1) a_nil)))) (w_or (t_cmp o_lt (e_pr [(0, B_Ratio_sign)] (hr.mono (by decide)) (e_stat tk (hr.mono (by decide)) st12 (F12.bindsN (ps := [("value" : PySem.Str)]) fun _ _ _ _ _ _ us hl => match us, hl with | [_], _ => rfl) .nil (fun _ => .nil) (a_cons (e_var 1) a_nil)) pr_sign) e_int) (w_or1 (t_val (e_meth [(0, B_Ratio_is_below)] tk (hr.mono (by decide)) (show ("is_below" : PySem.Str) ∉ flds by decide +kernel) (e_fl [(2, 2)] (e_var 0) ht_fl_age) (a_cons (e_var 1) a_nil) mt_is_below_1)))))) (s_one s_no) s_nil) (s_cons (s_to (O2 := [3]) (s_parG 2 3 (e_stat tk (hr.mono (by decide)) st12 (F12.bindsN (ps := [("value" : PySem.Str)]) fun _ _ _ _ _ _ us hl => match us, hl with | [_], _ => rfl) .nil (fun _ => .nil) (a_cons (e_var 1) a_nil)))) (s_cons (s_for (OL := [3]) [4, 5] (i_seq (e_fl [(2, 0)] (e_var 0) ht_fl_parts)) (g_tup (gs_cons (g_to (O2 := [3]) (g_name 4)) (gs_cons (g_to (O2 := [3]) (g_name 5)) gs_nil))) (s_cons (s_to (O2 := [3]) (s_set 6 (e_if (t_val (e_meth [(0, B_Ratio_is_below)] tk (hr.mono (by decide)) (show ("is_below" : PySem.Str) ∉ flds by decide +kernel) (e_var 2) (a_cons (e_var 5) a_nil) mt_is_below_1)) (e_var 2) (e_var 5)))) (s_cons (s_app 3 (e_tup (a_cons (e_var 4) (a_cons (e_var 6) a_nil)))) (s_one (s_to (O2 := [3]) (s_set 2 (e_bin (o_bin [(0, B_Ratio___sub__)] ["int"] [0, 1] tk (hr.mono (by decide)) o_sub ht_sub) (e_var 2) (e_var 6))))))) (passes_of rfl)) (ss_frz (O1 := []) (s_cons (s_to (O2 := []) (s_set 7 (e_ix (e_call tk (hr.mono (by decide)) g10 (F10.bindsN (ps := [("parts" : PySem.Str)]) fun _ _ _ _ _ _ us hl => match us, hl with | [_], _ => rfl) .nil (fun _ => .nil) (a_cons (e_var 3) a_nil)) (e_un o_neg e_int)))) (s_one (s_ret (e_call tk (hr.mono (by decide)) g22 (F22.bindsN (ps := [("right" : PySem.Str), ("left" : PySem.Str)]) fun _ _ _ _ _ _ us hl => match us, hl with | [_, _], _ => rfl) .nil (fun _ => .nil) (a_cons (e_ix (e_var 7) e_int) (a_cons (e_ix (e_var 7) e_int) a_nil)))))))))))⟩
theorem ok_33 {P : Program} {w : World} {K : PySem.W.Frag} {mg : Str → Option Value} {base : Heap} (h : Hy K mg base) : ∃ fd, FunD K d33.name d33.qual d33.params d33.body d33.scope (d33.dvs K) [] (d33.wh.ad K) fd ∧ FnB P w (gm K) mg base 11 (d33.wh.ad K) fd [("_law_right" : PySem.Str), ("_law_left" : PySem.Str)] 2 [] B__law_lit := by
  obtain ⟨fd26, F26, ok26⟩ := ok_26 (P := P) (w := w) h
  obtain ⟨fd21, F21, ok21⟩ := ok_21 (P := P) (w := w) h
  obtain ⟨fd5, F5, ok5⟩ := ok_5 (P := P) (w := w) h
  have g26 : GlOk (gm K) P w mg base 2 ("_law_plus" : PySem.Str) 2 [] B__law_plus _ fd26 [("_law_one" : PySem.Str), ("_law_other" : PySem.Str)] := ⟨He.glo_ok h.X0 h.G0 (h.c.fact 70), F26.kp, ok26, ar_of⟩
  have nw21 : NwOk (gm K) P w mg base 9 ("Step" : PySem.Str) 1 3 B_Step___init__ _ fd21 [("self" : PySem.Str), ("time" : PySem.Str), ("place" : PySem.Str)] := ⟨He.glo_ok h.X0 h.G0 (h.c.fact 62), He.mkr_ok (h.c.fact 63), rfl, ok21, ar_of, rfl⟩
  have nw5 : NwOk (gm K) P w mg base 3 ("Ratio" : PySem.Str) 0 3 B_Ratio___init__ _ fd5 [("self" : PySem.Str), ("top" : PySem.Str), ("bottom" : PySem.Str)] := ⟨He.glo_ok h.X0 h.G0 (h.c.fact 19), He.mkr_ok (h.c.fact 21), rfl, ok5, ar_of, rfl⟩
  obtain ⟨bd5_3, bd5_3_v, bd5_3_b⟩ := F5.binds1 (ps := [("self" : PySem.Str), ("top" : PySem.Str), ("bottom" : PySem.Str)]) 3 1 (List.cons_ne_nil _ _) rfl fun T kV doc pm an cdv ct us its h1 h2 => ⟨_, rfl, match us, h1, its, h2 with | [_, _, _], _, [_], _ => rfl⟩
  have hN : N33.Nodup := sc33.nd
  obtain ⟨fd, F⟩ := h.c.def_ 33 (d := d33) rfl
  exact ⟨fd, F, def_ok (G := gm K) (N := N33) (k := 10) (O' := []) F sc33 fun cdv A outer s H E hr tk => (s_cons (s_to (O2 := []) (s_par2 2 3 (a_cons (e_call tk (hr.mono (by decide)) g26 (F26.bindsN (ps := [("_law_one" : PySem.Str), ("_law_other" : PySem.Str)]) fun _ _ _ _ _ _ us hl => match us, hl with | [_, _], _ => rfl) .nil (fun _ => .nil) (a_cons (e_var 1) (a_cons (e_var 0) a_nil))) (a_cons (e_call tk (hr.mono (by decide)) g26 (F26.bindsN (ps := [("_law_one" : PySem.Str), ("_law_other" : PySem.Str)]) fun _ _ _ _ _ _ us hl => match us, hl with | [_, _], _ => rfl) .nil (fun _ => .nil) (a_cons (e_var 1) (a_cons (e_tup (a_cons (e_un o_neg (e_ix (e_var 0) e_int)) (a_cons (e_ix (e_var 0) e_int) a_nil))) a_nil))) a_nil)))) (s_one (s_ret (e_new tk (hr.mono (by decide)) nw21 (F21.bindsN (ps := [("self" : PySem.Str), ("time" : PySem.Str), ("place" : PySem.Str)]) fun _ _ _ _ _ _ us hl => match us, hl with | [_, _, _], _ => rfl) .nil (fun _ => .nil) (a_cons (e_new tk (hr.mono (by decide)) nw5 bd5_3_b bd5_3_v (fun _ => .nil) (a_cons (e_ix (e_var 2) e_int) (a_cons (e_bin o_mul e_int (e_ix (e_var 2) e_int)) a_nil))) (a_cons (e_lst (a_cons (e_new tk (hr.mono (by decide)) nw5 bd5_3_b bd5_3_v (fun _ => .nil) (a_cons (e_ix (e_var 3) e_int) (a_cons (e_bin o_mul e_int (e_ix (e_var 3) e_int)) a_nil))) a_nil)) a_nil))))))⟩
theorem ok_34 {P : Program} {w : World} {K : PySem.W.Frag} {mg : Str → Option Value} {base : Heap} (h : Hy K mg base) : ∃ fd, FunD K d34.name d34.qual d34.params d34.body d34.scope (d34.dvs K) [] (d34.wh.ad K) fd ∧ FnB P w (gm K) mg base 13 (d34.wh.ad K) fd [("_law_pen_here" : PySem.Str), ("_law_parts_here" : PySem.Str), ("_law_tour_here" : PySem.Str)] 3 [0] B__law_ages_right := by
  obtain ⟨fd27, F27, ok27⟩ := ok_27 (P := P) (w := w) h
  obtain ⟨fd1, F1, ok1⟩ := ok_1 (P := P) (w := w) h
  obtain ⟨fd26, F26, ok26⟩ := ok_26 (P := P) (w := w) h
  obtain ⟨fd32, F32, ok32⟩ := ok_32 (P := P) (w := w) h
  obtain ⟨fd5, F5, ok5⟩ := ok_5 (P := P) (w := w) h
  obtain ⟨fd33, F33, ok33⟩ := ok_33 (P := P) (w := w) h
  obtain ⟨fd29, F29, ok29⟩ := ok_29 (P := P) (w := w) h
  obtain ⟨fd21, F21, ok21⟩ := ok_21 (P := P) (w := w) h
  have g27 : GlOk (gm K) P w mg base 3 ("_law_lights" : PySem.Str) 1 [] B__law_lights _ fd27 [("_law_parts_here" : PySem.Str)] := ⟨He.glo_ok h.X0 h.G0 (h.c.fact 86), F27.kp, ok27, ar_of⟩
  have m_range : mg ("range" : PySem.Str) = none := He.free_ok h.X0 h.G0 (h.c.fact 5)
  have m_len : mg ("len" : PySem.Str) = none := He.free_ok h.X0 h.G0 (h.c.fact 1)
  have g1 : GlOk (gm K) P w mg base 2 ("_law_draw" : PySem.Str) 2 [0] B__law_draw _ fd1 [("_law_pen_here" : PySem.Str), ("_law_many" : PySem.Str)] := ⟨He.glo_ok h.X0 h.G0 (h.c.fact 3), F1.kp, ok1, ar_of⟩
  have g26 : GlOk (gm K) P w mg base 2 ("_law_plus" : PySem.Str) 2 [] B__law_plus _ fd26 [("_law_one" : PySem.Str), ("_law_other" : PySem.Str)] := ⟨He.glo_ok h.X0 h.G0 (h.c.fact 70), F26.kp, ok26, ar_of⟩
  have g32 : GlOk (gm K) P w mg base 12 ("spot_at" : PySem.Str) 2 [] B_spot_at _ fd32 [("tour" : PySem.Str), ("age" : PySem.Str)] := ⟨He.glo_ok h.X0 h.G0 (h.c.fact 87), F32.kp, ok32, ar_of⟩
  have nw5 : NwOk (gm K) P w mg base 3 ("Ratio" : PySem.Str) 0 3 B_Ratio___init__ _ fd5 [("self" : PySem.Str), ("top" : PySem.Str), ("bottom" : PySem.Str)] := ⟨He.glo_ok h.X0 h.G0 (h.c.fact 19), He.mkr_ok (h.c.fact 21), rfl, ok5, ar_of, rfl⟩
  obtain ⟨bd5_3, bd5_3_v, bd5_3_b⟩ := F5.binds1 (ps := [("self" : PySem.Str), ("top" : PySem.Str), ("bottom" : PySem.Str)]) 3 1 (List.cons_ne_nil _ _) rfl fun T kV doc pm an cdv ct us its h1 h2 => ⟨_, rfl, match us, h1, its, h2 with | [_, _, _], _, [_], _ => rfl⟩
  have g33 : GlOk (gm K) P w mg base 11 ("_law_lit" : PySem.Str) 2 [] B__law_lit _ fd33 [("_law_right" : PySem.Str), ("_law_left" : PySem.Str)] := ⟨He.glo_ok h.X0 h.G0 (h.c.fact 88), F33.kp, ok33, ar_of⟩
  have ht_eqN : ∀ c B, List.lookup c [(1, B_Step___eq__)] = some B → (∃ f fd ps, OwnOk (gm K) P w mg base 5 "__eq__" c B f fd ps 2) ∧ CmpOk (gm K) ["int"] [0, 1, 2] c ∧ NeOk (gm K) c := (lk_cons ⟨⟨_, fd29, [("self" : PySem.Str), ("other" : PySem.Str)], (He.meth_ok (h.c.fact 93)).at_, (He.meth_ok (h.c.fact 93)).fn, fn_up ok29 (by decide), F29.bindsN (ps := [("self" : PySem.Str), ("other" : PySem.Str)]) fun _ _ _ _ _ _ us hl => match us, hl with | [_, _], _ => rfl, ar_of⟩, ⟨(mem_cons ⟨by decide, (h.c.fact 89)⟩ mem_nil), (mem_cons (h.c.fact 92) (mem_cons (h.c.fact 91) (mem_cons (h.c.fact 90) mem_nil)))⟩, ⟨eqF_ok (h.c.fact 94), (ty1 h).hm⟩⟩ lk_nil)
  have nw21 : NwOk (gm K) P w mg base 9 ("Step" : PySem.Str) 1 3 B_Step___init__ _ fd21 [("self" : PySem.Str), ("time" : PySem.Str), ("place" : PySem.Str)] := ⟨He.glo_ok h.X0 h.G0 (h.c.fact 62), He.mkr_ok (h.c.fact 63), rfl, ok21, ar_of, rfl⟩
  have ht_eq : ∀ c B, List.lookup c [(1, B_Step___eq__)] = some B → (∃ f fd ps, OwnOk (gm K) P w mg base 5 ("__eq__" : PySem.Str) c B f fd ps 2) ∧ CmpOk (gm K) ["int"] [0, 1, 2] c := (lk_cons ⟨⟨_, fd29, [("self" : PySem.Str), ("other" : PySem.Str)], (He.meth_ok (h.c.fact 93)).at_, (He.meth_ok (h.c.fact 93)).fn, fn_up ok29 (by decide), F29.bindsN (ps := [("self" : PySem.Str), ("other" : PySem.Str)]) fun _ _ _ _ _ _ us hl => match us, hl with | [_, _], _ => rfl, ar_of⟩, ⟨(mem_cons ⟨by decide, (h.c.fact 89)⟩ mem_nil), (mem_cons (h.c.fact 92) (mem_cons (h.c.fact 91) (mem_cons (h.c.fact 90) mem_nil)))⟩⟩ lk_nil)
  have ht_fl_age : ∀ c i, List.lookup c [(2, 2)] = some i → ClsOk (gm K) c ∧ ((gm K).lay c)[i]? = some ("age" : PySem.Str) := (lk_cons ⟨co2 h, rfl⟩ lk_nil)
  have ht_fl_step : ∀ c i, List.lookup c [(2, 3)] = some i → ClsOk (gm K) c ∧ ((gm K).lay c)[i]? = some ("step" : PySem.Str) := (lk_cons ⟨co2 h, rfl⟩ lk_nil)
  have hN : N34.Nodup := sc34.nd
  obtain ⟨fd, F⟩ := h.c.def_ 34 (d := d34) rfl
  exact ⟨fd, F, def_ok (G := gm K) (N := N34) (k := 12) (O' := [0]) F sc34 fun cdv A outer s H E hr tk => (s_cons (s_to (O2 := [0]) (s_set 3 (e_call tk (hr.mono (by decide)) g27 (F27.bindsN (ps := [("_law_parts_here" : PySem.Str)]) fun _ _ _ _ _ _ us hl => match us, hl with | [_], _ => rfl) .nil (fun _ => .nil) (a_cons (e_var 1) a_nil)))) (s_cons (s_for (OL := [0]) [4] (i_rng1 (a_cons e_int a_nil)) (g_to (O2 := [0]) (g_name 4)) (s_cons (s_to (O2 := [0]) (s_par2 5 6 (a_cons (e_callO 0 tk (hr.mono (by decide)) g1 (F1.bindsN (ps := [("_law_pen_here" : PySem.Str), ("_law_many" : PySem.Str)]) fun _ _ _ _ _ _ us hl => match us, hl with | [_, _], _ => rfl) (a_cons (e_len (a_cons (e_var 1) a_nil)) a_nil)) (a_cons (e_tup (a_cons (e_callO 0 tk (hr.mono (by decide)) g1 (F1.bindsN (ps := [("_law_pen_here" : PySem.Str), ("_law_many" : PySem.Str)]) fun _ _ _ _ _ _ us hl => match us, hl with | [_, _], _ => rfl) (a_cons e_int a_nil)) (a_cons e_int a_nil))) a_nil)))) (s_cons (s_asg (vs := [0, 1, 2, 3, 4, 5, 6, 7, 8, 9, 10, 11, 12]) (e_tup (a_cons (e_ix (e_var 1) (e_var 5)) (a_cons (e_ix (e_var 3) (e_var 5)) a_nil))) (g_tup (gs_cons (g_tup (gs_cons (g_to (O2 := [0]) (g_name 7)) (gs_cons (g_to (O2 := [0]) (g_name 8)) gs_nil))) (gs_cons (g_tup (gs_cons (g_to (O2 := [0]) (g_name 9)) (gs_cons (g_to (O2 := [0]) (g_name 10)) (gs_cons (g_to (O2 := [0]) (g_name 11)) gs_nil)))) gs_nil)))) (s_cons (s_to (O2 := [0]) (s_set 12 (e_tup (a_cons (e_bin o_mul (e_ix (e_var 8) e_int) (e_ix (e_var 6) e_int)) (a_cons (e_bin o_mul (e_ix (e_var 8) e_int) (e_ix (e_var 6) e_int)) a_nil))))) (s_cons (s_to (O2 := [0]) (s_set 10 (e_call tk (hr.mono (by decide)) g26 (F26.bindsN (ps := [("_law_one" : PySem.Str), ("_law_other" : PySem.Str)]) fun _ _ _ _ _ _ us hl => match us, hl with | [_, _], _ => rfl) .nil (fun _ => .nil) (a_cons (e_var 10) (a_cons (e_tup (a_cons (e_bin o_mul (e_ix (e_var 12) e_int) (e_ix (e_var 7) e_int)) (a_cons (e_bin o_mul (e_ix (e_var 12) e_int) (e_ix (e_var 7) e_int)) a_nil))) a_nil))))) (s_cons (s_to (O2 := [0]) (s_set 11 (e_call tk (hr.mono (by decide)) g26 (F26.bindsN (ps := [("_law_one" : PySem.Str), ("_law_other" : PySem.Str)]) fun _ _ _ _ _ _ us hl => match us, hl with | [_, _], _ => rfl) .nil (fun _ => .nil) (a_cons (e_var 11) (a_cons (e_tup (a_cons (e_bin o_mul (e_ix (e_var 12) e_int) (e_ix (e_var 7) e_int)) (a_cons (e_bin o_mul (e_ix (e_var 12) e_int) (e_ix (e_var 7) e_int)) a_nil))) a_nil))))) (s_cons (s_to (O2 := [0]) (s_set 9 (e_call tk (hr.mono (by decide)) g26 (F26.bindsN (ps := [("_law_one" : PySem.Str), ("_law_other" : PySem.Str)]) fun _ _ _ _ _ _ us hl => match us, hl with | [_, _], _ => rfl) .nil (fun _ => .nil) (a_cons (e_var 9) (a_cons (e_var 12) a_nil))))) (s_one (s_if (t_cmp (o_neW [(1, B_Step___eq__)] ["int"] [0, 1, 2] tk (hr.mono (by decide)) (o_ne hr) ht_eqN) (e_callK0 tk (hr.mono (by decide)) g32 (bindK0 (ps := [("tour" : PySem.Str), ("age" : PySem.Str)]) F32 0 [("age" : PySem.Str), ("tour" : PySem.Str)] [1, 0] fun _ _ _ _ _ _ us ws h1 h2 => match us, h1, ws, h2 with | [], _, [_, _], _ => rfl) .nil (fun _ => .nil) (k_cons (e_new tk (hr.mono (by decide)) nw5 bd5_3_b bd5_3_v (fun _ => .nil) (a_cons (e_ix (e_var 9) e_int) (a_cons (e_ix (e_var 9) e_int) a_nil))) (k_cons (e_var 2) k_nil))) (e_call tk (hr.mono (by decide)) g33 (F33.bindsN (ps := [("_law_right" : PySem.Str), ("_law_left" : PySem.Str)]) fun _ _ _ _ _ _ us hl => match us, hl with | [_, _], _ => rfl) .nil (fun _ => .nil) (a_cons (e_var 10) (a_cons (e_var 11) a_nil)))) (s_one (s_ret e_bl)) s_nil)))))))) (passes_of rfl)) (s_one (s_ret (e_and (e_cmp (o_eqT [(1, B_Step___eq__)] ["int"] [0, 1, 2] tk (hr.mono (by decide)) ht_eq) (e_call tk (hr.mono (by decide)) g32 (F32.bindsN (ps := [("tour" : PySem.Str), ("age" : PySem.Str)]) fun _ _ _ _ _ _ us hl => match us, hl with | [_, _], _ => rfl) .nil (fun _ => .nil) (a_cons (e_var 2) (a_cons e_int a_nil))) (e_new tk (hr.mono (by decide)) nw21 (F21.bindsN (ps := [("self" : PySem.Str), ("time" : PySem.Str), ("place" : PySem.Str)]) fun _ _ _ _ _ _ us hl => match us, hl with | [_, _, _], _ => rfl) .nil (fun _ => .nil) (a_cons e_int (a_cons (e_lst (a_cons e_int a_nil)) a_nil)))) (e_bo1 (e_cmp (o_eqT [(1, B_Step___eq__)] ["int"] [0, 1, 2] tk (hr.mono (by decide)) ht_eq) (e_call tk (hr.mono (by decide)) g32 (F32.bindsN (ps := [("tour" : PySem.Str), ("age" : PySem.Str)]) fun _ _ _ _ _ _ us hl => match us, hl with | [_, _], _ => rfl) .nil (fun _ => .nil) (a_cons (e_var 2) (a_cons (e_fl [(2, 2)] (e_var 2) ht_fl_age) a_nil))) (e_fl [(2, 3)] (e_var 2) ht_fl_step))))))))⟩
theorem ok_35 {P : Program} {w : World} {K : PySem.W.Frag} {mg : Str → Option Value} {base : Heap} (h : Hy K mg base) : ∃ fd, FunD K d35.name d35.qual d35.params d35.body d35.scope (d35.dvs K) [] (d35.wh.ad K) fd ∧ FnB P w (gm K) mg base 2 (d35.wh.ad K) fd [("value" : PySem.Str), ("part" : PySem.Str)] 2 [] B_need_step := by
  have m_isinstance : mg ("isinstance" : PySem.Str) = none := He.free_ok h.X0 h.G0 (h.c.fact 6)
  have hN : N35.Nodup := sc35.nd
  obtain ⟨fd, F⟩ := h.c.def_ 35 (d := d35) rfl
  exact ⟨fd, F, def_ok (G := gm K) (N := N35) (k := 1) (O' := []) F sc35 fun cdv A outer s H E hr tk => (s_one (s_if (t_not (t_val (e_isi (e_var 0) (cv_own (He.glo_ok h.X0 h.G0 (h.c.fact 62))) (kn_own (k := 1) [(0, false), (1, true), (2, false)] (lk_cons ⟨ty0 h, eqF_ok (h.c.fact 73)⟩ (lk_cons ⟨ty1 h, eqF_ok (h.c.fact 72)⟩ (lk_cons ⟨ty2 h, eqF_ok (h.c.fact 71)⟩ lk_nil))) fun m hm => eqF_ok (List.all_eq_true.mp (h.c.fact 74) m hm))))) (s_one s_no) s_nil))⟩
theorem ok_36 {P : Program} {w : World} {K : PySem.W.Frag} {mg : Str → Option Value} {base : Heap} (h : Hy K mg base) : ∃ fd, FunD K d36.name d36.qual d36.params d36.body d36.scope (d36.dvs K) [] (d36.wh.ad K) fd ∧ FnB P w (gm K) mg base 9 (d36.wh.ad K) fd [("tour" : PySem.Str), ("side" : PySem.Str), ("light" : PySem.Str)] 3 [] B_age_of_light := by
  obtain ⟨fd10, F10, ok10⟩ := ok_10 (P := P) (w := w) h
  obtain ⟨fd31, F31, ok31⟩ := ok_31 (P := P) (w := w) h
  obtain ⟨fd5, F5, ok5⟩ := ok_5 (P := P) (w := w) h
  obtain ⟨fd7, F7, ok7⟩ := ok_7 (P := P) (w := w) h
  obtain ⟨fd14, F14, ok14⟩ := ok_14 (P := P) (w := w) h
  obtain ⟨fd9, F9, ok9⟩ := ok_9 (P := P) (w := w) h
  obtain ⟨fd8, F8, ok8⟩ := ok_8 (P := P) (w := w) h
  have g10 : GlOk (gm K) P w mg base 7 ("lights_along" : PySem.Str) 1 [] B_lights_along _ fd10 [("parts" : PySem.Str)] := ⟨He.glo_ok h.X0 h.G0 (h.c.fact 66), F10.kp, ok10, ar_of⟩
  have ht_fl_parts : ∀ c i, List.lookup c [(2, 0)] = some i → ClsOk (gm K) c ∧ ((gm K).lay c)[i]? = some ("parts" : PySem.Str) := (lk_cons ⟨co2 h, rfl⟩ lk_nil)
  have mt_is_below_1 : ∀ c B, List.lookup c [(0, B_Ratio_is_below)] = some B → ∃ n f fd ps ds dvs, MtOk (gm K) P w mg base 8 c ("is_below" : PySem.Str) n B f fd ps ds dvs ∧ ∀ F, RepL (gm K) F [] dvs := (lk_cons ⟨2, _, fd31, [("self" : PySem.Str), ("other" : PySem.Str)], _, _, ⟨(clo0 h).1, He.meth_ok (h.c.fact 85), fn_up ok31 (by decide), ar_of, (F31.bindsN (ps := [("self" : PySem.Str), ("other" : PySem.Str)]) fun _ _ _ _ _ _ us hl => match us, hl with | [_, _], _ => rfl), .nil⟩, (fun _ => .nil)⟩ lk_nil)
  have nw5 : NwOk (gm K) P w mg base 3 ("Ratio" : PySem.Str) 0 3 B_Ratio___init__ _ fd5 [("self" : PySem.Str), ("top" : PySem.Str), ("bottom" : PySem.Str)] := ⟨He.glo_ok h.X0 h.G0 (h.c.fact 19), He.mkr_ok (h.c.fact 21), rfl, ok5, ar_of, rfl⟩
  obtain ⟨bd5_2, bd5_2_v, bd5_2_b⟩ := F5.binds1 (ps := [("self" : PySem.Str), ("top" : PySem.Str), ("bottom" : PySem.Str)]) 2 0 (List.cons_ne_nil _ _) rfl fun T kV doc pm an cdv ct us its h1 h2 => ⟨_, rfl, match us, h1, its, h2 with | [_, _], _, [_], _ => rfl⟩
  have m_enumerate : mg ("enumerate" : PySem.Str) = none := He.free_ok h.X0 h.G0 (h.c.fact 95)
  have ht_add : ∀ c B, List.lookup c [(0, B_Ratio___add__)] = some B → (∃ f fd ps, OwnOk (gm K) P w mg base 6 ("__add__" : PySem.Str) c B f fd ps 2) ∧ BinOk (gm K) ("__add__" : PySem.Str) ("__radd__" : PySem.Str) ["int"] [0, 1] c := (lk_cons ⟨⟨_, fd7, [("self" : PySem.Str), ("other" : PySem.Str)], (He.meth_ok (h.c.fact 28)).at_, (He.meth_ok (h.c.fact 28)).fn, fn_up ok7 (by decide), F7.bindsN (ps := [("self" : PySem.Str), ("other" : PySem.Str)]) fun _ _ _ _ _ _ us hl => match us, hl with | [_, _], _ => rfl, ar_of⟩, ⟨(h.c.fact 29), rd_ok (h.c.fact 30), (mem_cons ⟨by decide, biT_ok (h.c.fact 23)⟩ mem_nil), (mem_cons (.inl rfl) (mem_cons (.inr ⟨(sub_ok (h.c.fact 24)).2, (h.c.fact 25), ⟨_, (He.meth_ok (h.c.fact 26)).at_⟩, rd_ok (h.c.fact 27), (sub_ok (h.c.fact 24)).1⟩) mem_nil))⟩⟩ lk_nil)
  have ht_sub : ∀ c B, List.lookup c [(0, B_Ratio___sub__)] = some B → (∃ f fd ps, OwnOk (gm K) P w mg base 7 ("__sub__" : PySem.Str) c B f fd ps 2) ∧ BinOk (gm K) ("__sub__" : PySem.Str) ("__rsub__" : PySem.Str) ["int"] [0, 1] c := (lk_cons ⟨⟨_, fd14, [("self" : PySem.Str), ("other" : PySem.Str)], (He.meth_ok (h.c.fact 55)).at_, (He.meth_ok (h.c.fact 55)).fn, fn_up ok14 (by decide), F14.bindsN (ps := [("self" : PySem.Str), ("other" : PySem.Str)]) fun _ _ _ _ _ _ us hl => match us, hl with | [_, _], _ => rfl, ar_of⟩, ⟨(h.c.fact 29), rd_ok (h.c.fact 56), (mem_cons ⟨by decide, biT_ok (h.c.fact 52)⟩ mem_nil), (mem_cons (.inl rfl) (mem_cons (.inr ⟨(sub_ok (h.c.fact 24)).2, (h.c.fact 25), ⟨_, (He.meth_ok (h.c.fact 53)).at_⟩, rd_ok (h.c.fact 54), (sub_ok (h.c.fact 24)).1⟩) mem_nil))⟩⟩ lk_nil)
  have ht_mul : ∀ c B, List.lookup c [(0, B_Ratio___mul__)] = some B → (∃ f fd ps, OwnOk (gm K) P w mg base 6 ("__mul__" : PySem.Str) c B f fd ps 2) ∧ BinOk (gm K) ("__mul__" : PySem.Str) ("__rmul__" : PySem.Str) ["int"] [0, 1] c := (lk_cons ⟨⟨_, fd9, [("self" : PySem.Str), ("other" : PySem.Str)], (He.meth_ok (h.c.fact 35)).at_, (He.meth_ok (h.c.fact 35)).fn, fn_up ok9 (by decide), F9.bindsN (ps := [("self" : PySem.Str), ("other" : PySem.Str)]) fun _ _ _ _ _ _ us hl => match us, hl with | [_, _], _ => rfl, ar_of⟩, ⟨(h.c.fact 29), rd_ok (h.c.fact 36), (mem_cons ⟨by decide, biT_ok (h.c.fact 32)⟩ mem_nil), (mem_cons (.inl rfl) (mem_cons (.inr ⟨(sub_ok (h.c.fact 24)).2, (h.c.fact 25), ⟨_, (He.meth_ok (h.c.fact 33)).at_⟩, rd_ok (h.c.fact 34), (sub_ok (h.c.fact 24)).1⟩) mem_nil))⟩⟩ lk_nil)
  have mt_over_1 : ∀ c B, List.lookup c [(0, B_Ratio_over)] = some B → ∃ n f fd ps ds dvs, MtOk (gm K) P w mg base 6 c ("over" : PySem.Str) n B f fd ps ds dvs ∧ ∀ F, RepL (gm K) F [] dvs := (lk_cons ⟨2, _, fd8, [("self" : PySem.Str), ("other" : PySem.Str)], _, _, ⟨(clo0 h).1, He.meth_ok (h.c.fact 31), fn_up ok8 (by decide), ar_of, (F8.bindsN (ps := [("self" : PySem.Str), ("other" : PySem.Str)]) fun _ _ _ _ _ _ us hl => match us, hl with | [_, _], _ => rfl), .nil⟩, (fun _ => .nil)⟩ lk_nil)
  have hN : N36.Nodup := sc36.nd
  obtain ⟨fd, F⟩ := h.c.def_ 36 (d := d36) rfl
  exact ⟨fd, F, def_ok (G := gm K) (N := N36) (k := 8) (O' := []) F sc36 fun cdv A outer s H E hr tk => (s_cons (s_to (O2 := []) (s_set 3 (e_call tk (hr.mono (by decide)) g10 (F10.bindsN (ps := [("parts" : PySem.Str)]) fun _ _ _ _ _ _ us hl => match us, hl with | [_], _ => rfl) .nil (fun _ => .nil) (a_cons (e_fl [(2, 0)] (e_var 0) ht_fl_parts) a_nil)))) (s_cons (s_if (t_not (t_val (e_meth [(0, B_Ratio_is_below)] tk (hr.mono (by decide)) (show ("is_below" : PySem.Str) ∉ flds by decide +kernel) (e_ix (e_ix (e_var 3) e_int) (e_var 1)) (a_cons (e_var 2) a_nil) mt_is_below_1))) (s_one (s_ret (e_new tk (hr.mono (by decide)) nw5 bd5_2_b bd5_2_v (fun _ => (.cons .int .nil)) (a_cons e_int a_nil)))) s_nil) (s_cons (s_for (OL := []) [4, 5] (i_ent (a_cons (e_fl [(2, 0)] (e_var 0) ht_fl_parts) a_nil)) (g_tup (gs_cons (g_to (O2 := []) (g_name 4)) (gs_cons (g_to (O2 := []) (g_name 5)) gs_nil))) (s_one (s_if (t_not (t_val (e_meth [(0, B_Ratio_is_below)] tk (hr.mono (by decide)) (show ("is_below" : PySem.Str) ∉ flds by decide +kernel) (e_ix (e_ix (e_var 3) (e_bin (o_bin [(0, B_Ratio___add__)] ["int"] [0, 1] tk (hr.mono (by decide)) o_add ht_add) (e_var 4) e_int)) (e_var 1)) (a_cons (e_var 2) a_nil) mt_is_below_1))) (s_cons (s_to (O2 := []) (s_set 6 (e_bin (o_bin [(0, B_Ratio___sub__)] ["int"] [0, 1] tk (hr.mono (by decide)) o_sub ht_sub) (e_var 2) (e_ix (e_ix (e_var 3) (e_var 4)) (e_var 1))))) (s_one (s_ret (e_bin (o_bin [(0, B_Ratio___add__)] ["int"] [0, 1] tk (hr.mono (by decide)) o_add ht_add) (e_ix (e_ix (e_var 3) (e_var 4)) e_int) (e_if (t_cmp (o_eq hr) (e_var 1) e_int) (e_bin (o_bin [(0, B_Ratio___mul__)] ["int"] [0, 1] tk (hr.mono (by decide)) o_mul ht_mul) (e_var 6) (e_ix (e_var 5) e_int)) (e_meth [(0, B_Ratio_over)] tk (hr.mono (by decide)) (show ("over" : PySem.Str) ∉ flds by decide +kernel) (e_var 6) (a_cons (e_ix (e_var 5) e_int) a_nil) mt_over_1)))))) s_nil)) (passes_of rfl)) (s_one (s_ret e_non)))))⟩
theorem ok_37 {P : Program} {w : World} {K : PySem.W.Frag} {mg : Str → Option Value} {base : Heap} (h : Hy K mg base) : ∃ fd, FunD K d37.name d37.qual d37.params d37.body d37.scope (d37.dvs K) [] (d37.wh.ad K) fd ∧ FnB P w (gm K) mg base 10 (d37.wh.ad K) fd [("tour" : PySem.Str), ("step" : PySem.Str)] 2 [] B_age_of_news := by
  obtain ⟨fd30, F30, ok30⟩ := ok_30 (P := P) (w := w) h
  obtain ⟨fd35, F35, ok35⟩ := ok_35 (P := P) (w := w) h
  obtain ⟨fd36, F36, ok36⟩ := ok_36 (P := P) (w := w) h
  obtain ⟨fd14, F14, ok14⟩ := ok_14 (P := P) (w := w) h
  obtain ⟨fd7, F7, ok7⟩ := ok_7 (P := P) (w := w) h
  obtain ⟨fd31, F31, ok31⟩ := ok_31 (P := P) (w := w) h
  have g30 : GlOk (gm K) P w mg base 2 ("need_tour" : PySem.Str) 2 [] B_need_tour _ fd30 [("value" : PySem.Str), ("part" : PySem.Str)] := ⟨He.glo_ok h.X0 h.G0 (h.c.fact 84), F30.kp, ok30, ar_of⟩
  have g35 : GlOk (gm K) P w mg base 2 ("need_step" : PySem.Str) 2 [] B_need_step _ fd35 [("value" : PySem.Str), ("part" : PySem.Str)] := ⟨He.glo_ok h.X0 h.G0 (h.c.fact 96), F35.kp, ok35, ar_of⟩
  have ht_fl_axes : ∀ c i, List.lookup c [(1, 2)] = some i → ClsOk (gm K) c ∧ ((gm K).lay c)[i]? = some ("axes" : PySem.Str) := (lk_cons ⟨co1 h, rfl⟩ lk_nil)
  have g36 : GlOk (gm K) P w mg base 9 ("age_of_light" : PySem.Str) 3 [] B_age_of_light _ fd36 [("tour" : PySem.Str), ("side" : PySem.Str), ("light" : PySem.Str)] := ⟨He.glo_ok h.X0 h.G0 (h.c.fact 97), F36.kp, ok36, ar_of⟩
  have ht_fl_time : ∀ c i, List.lookup c [(1, 0)] = some i → ClsOk (gm K) c ∧ ((gm K).lay c)[i]? = some ("time" : PySem.Str) := (lk_cons ⟨co1 h, rfl⟩ lk_nil)
  have ht_fl_place : ∀ c i, List.lookup c [(1, 1)] = some i → ClsOk (gm K) c ∧ ((gm K).lay c)[i]? = some ("place" : PySem.Str) := (lk_cons ⟨co1 h, rfl⟩ lk_nil)
  have ht_sub : ∀ c B, List.lookup c [(0, B_Ratio___sub__)] = some B → (∃ f fd ps, OwnOk (gm K) P w mg base 7 ("__sub__" : PySem.Str) c B f fd ps 2) ∧ BinOk (gm K) ("__sub__" : PySem.Str) ("__rsub__" : PySem.Str) ["int"] [0, 1] c := (lk_cons ⟨⟨_, fd14, [("self" : PySem.Str), ("other" : PySem.Str)], (He.meth_ok (h.c.fact 55)).at_, (He.meth_ok (h.c.fact 55)).fn, fn_up ok14 (by decide), F14.bindsN (ps := [("self" : PySem.Str), ("other" : PySem.Str)]) fun _ _ _ _ _ _ us hl => match us, hl with | [_, _], _ => rfl, ar_of⟩, ⟨(h.c.fact 29), rd_ok (h.c.fact 56), (mem_cons ⟨by decide, biT_ok (h.c.fact 52)⟩ mem_nil), (mem_cons (.inl rfl) (mem_cons (.inr ⟨(sub_ok (h.c.fact 24)).2, (h.c.fact 25), ⟨_, (He.meth_ok (h.c.fact 53)).at_⟩, rd_ok (h.c.fact 54), (sub_ok (h.c.fact 24)).1⟩) mem_nil))⟩⟩ lk_nil)
  have ht_add : ∀ c B, List.lookup c [(0, B_Ratio___add__)] = some B → (∃ f fd ps, OwnOk (gm K) P w mg base 6 ("__add__" : PySem.Str) c B f fd ps 2) ∧ BinOk (gm K) ("__add__" : PySem.Str) ("__radd__" : PySem.Str) ["int"] [0, 1] c := (lk_cons ⟨⟨_, fd7, [("self" : PySem.Str), ("other" : PySem.Str)], (He.meth_ok (h.c.fact 28)).at_, (He.meth_ok (h.c.fact 28)).fn, fn_up ok7 (by decide), F7.bindsN (ps := [("self" : PySem.Str), ("other" : PySem.Str)]) fun _ _ _ _ _ _ us hl => match us, hl with | [_, _], _ => rfl, ar_of⟩, ⟨(h.c.fact 29), rd_ok (h.c.fact 30), (mem_cons ⟨by decide, biT_ok (h.c.fact 23)⟩ mem_nil), (mem_cons (.inl rfl) (mem_cons (.inr ⟨(sub_ok (h.c.fact 24)).2, (h.c.fact 25), ⟨_, (He.meth_ok (h.c.fact 26)).at_⟩, rd_ok (h.c.fact 27), (sub_ok (h.c.fact 24)).1⟩) mem_nil))⟩⟩ lk_nil)
  have mt_is_below_1 : ∀ c B, List.lookup c [(0, B_Ratio_is_below)] = some B → ∃ n f fd ps ds dvs, MtOk (gm K) P w mg base 8 c ("is_below" : PySem.Str) n B f fd ps ds dvs ∧ ∀ F, RepL (gm K) F [] dvs := (lk_cons ⟨2, _, fd31, [("self" : PySem.Str), ("other" : PySem.Str)], _, _, ⟨(clo0 h).1, He.meth_ok (h.c.fact 85), fn_up ok31 (by decide), ar_of, (F31.bindsN (ps := [("self" : PySem.Str), ("other" : PySem.Str)]) fun _ _ _ _ _ _ us hl => match us, hl with | [_, _], _ => rfl), .nil⟩, (fun _ => .nil)⟩ lk_nil)
  have hN : N37.Nodup := sc37.nd
  obtain ⟨fd, F⟩ := h.c.def_ 37 (d := d37) rfl
  exact ⟨fd, F, def_ok (G := gm K) (N := N37) (k := 9) (O' := []) F sc37 fun cdv A outer s H E hr tk => (s_cons (s_expr (e_call tk (hr.mono (by decide)) g30 (F30.bindsN (ps := [("value" : PySem.Str), ("part" : PySem.Str)]) fun _ _ _ _ _ _ us hl => match us, hl with | [_, _], _ => rfl) .nil (fun _ => .nil) (a_cons (e_var 0) (a_cons e_str a_nil)))) (s_cons (s_expr (e_call tk (hr.mono (by decide)) g35 (F35.bindsN (ps := [("value" : PySem.Str), ("part" : PySem.Str)]) fun _ _ _ _ _ _ us hl => match us, hl with | [_, _], _ => rfl) .nil (fun _ => .nil) (a_cons (e_var 1) (a_cons e_str a_nil)))) (s_cons (s_if (t_cmp (o_ne hr) (e_fl [(1, 2)] (e_var 1) ht_fl_axes) e_int) (s_one s_no) s_nil) (s_cons (s_to (O2 := []) (s_set 2 (e_call tk (hr.mono (by decide)) g36 (F36.bindsN (ps := [("tour" : PySem.Str), ("side" : PySem.Str), ("light" : PySem.Str)]) fun _ _ _ _ _ _ us hl => match us, hl with | [_, _, _], _ => rfl) .nil (fun _ => .nil) (a_cons (e_var 0) (a_cons e_int (a_cons (e_bin (o_bin [(0, B_Ratio___sub__)] ["int"] [0, 1] tk (hr.mono (by decide)) o_sub ht_sub) (e_fl [(1, 0)] (e_var 1) ht_fl_time) (e_ix (e_fl [(1, 1)] (e_var 1) ht_fl_place) e_int)) a_nil)))))) (s_cons (s_to (O2 := []) (s_set 3 (e_call tk (hr.mono (by decide)) g36 (F36.bindsN (ps := [("tour" : PySem.Str), ("side" : PySem.Str), ("light" : PySem.Str)]) fun _ _ _ _ _ _ us hl => match us, hl with | [_, _, _], _ => rfl) .nil (fun _ => .nil) (a_cons (e_var 0) (a_cons e_int (a_cons (e_bin (o_bin [(0, B_Ratio___add__)] ["int"] [0, 1] tk (hr.mono (by decide)) o_add ht_add) (e_fl [(1, 0)] (e_var 1) ht_fl_time) (e_ix (e_fl [(1, 1)] (e_var 1) ht_fl_place) e_int)) a_nil)))))) (s_cons (s_if (t_bo (w_or (t_isN (e_var 2)) (w_or1 (t_isN (e_var 3))))) (s_one (s_ret e_non)) s_nil) (s_one (s_ret (e_if (t_val (e_meth [(0, B_Ratio_is_below)] tk (hr.mono (by decide)) (show ("is_below" : PySem.Str) ∉ flds by decide +kernel) (e_var 2) (a_cons (e_var 3) a_nil) mt_is_below_1)) (e_var 3) (e_var 2))))))))))⟩
theorem ok_38 {P : Program} {w : World} {K : PySem.W.Frag} {mg : Str → Option Value} {base : Heap} (h : Hy K mg base) : ∃ fd, FunD K d38.name d38.qual d38.params d38.body d38.scope (d38.dvs K) [] (d38.wh.ad K) fd ∧ FnB P w (gm K) mg base 2 (d38.wh.ad K) fd [("_law_one" : PySem.Str), ("_law_other" : PySem.Str)] 2 [] B__law_is_less := by
  have hN : N38.Nodup := sc38.nd
  obtain ⟨fd, F⟩ := h.c.def_ 38 (d := d38) rfl
  exact ⟨fd, F, def_ok (G := gm K) (N := N38) (k := 1) (O' := []) F sc38 fun cdv A outer s H E hr tk => (s_one (s_ret (e_cmp o_lt (e_bin o_mul (e_ix (e_var 0) e_int) (e_ix (e_var 1) e_int)) (e_bin o_mul (e_ix (e_var 1) e_int) (e_ix (e_var 0) e_int)))))⟩
theorem ok_39 {P : Program} {w : World} {K : PySem.W.Frag} {mg : Str → Option Value} {base : Heap} (h : Hy K mg base) : ∃ fd, FunD K d39.name d39.qual d39.params d39.body d39.scope (d39.dvs K) [] (d39.wh.ad K) fd ∧ FnB P w (gm K) mg base 13 (d39.wh.ad K) fd [("_law_pen_here" : PySem.Str), ("_law_parts_here" : PySem.Str), ("_law_tour_here" : PySem.Str)] 3 [0] B__law_news_right := by
  obtain ⟨fd27, F27, ok27⟩ := ok_27 (P := P) (w := w) h
  obtain ⟨fd2, F2, ok2⟩ := ok_2 (P := P) (w := w) h
  obtain ⟨fd1, F1, ok1⟩ := ok_1 (P := P) (w := w) h
  obtain ⟨fd7, F7, ok7⟩ := ok_7 (P := P) (w := w) h
  obtain ⟨fd14, F14, ok14⟩ := ok_14 (P := P) (w := w) h
  obtain ⟨fd37, F37, ok37⟩ := ok_37 (P := P) (w := w) h
  obtain ⟨fd33, F33, ok33⟩ := ok_33 (P := P) (w := w) h
  obtain ⟨fd38, F38, ok38⟩ := ok_38 (P := P) (w := w) h
  obtain ⟨fd19, F19, ok19⟩ := ok_19 (P := P) (w := w) h
  obtain ⟨fd28, F28, ok28⟩ := ok_28 (P := P) (w := w) h
  obtain ⟨fd32, F32, ok32⟩ := ok_32 (P := P) (w := w) h
  obtain ⟨fd5, F5, ok5⟩ := ok_5 (P := P) (w := w) h
  obtain ⟨fd31, F31, ok31⟩ := ok_31 (P := P) (w := w) h
  have g27 : GlOk (gm K) P w mg base 3 ("_law_lights" : PySem.Str) 1 [] B__law_lights _ fd27 [("_law_parts_here" : PySem.Str)] := ⟨He.glo_ok h.X0 h.G0 (h.c.fact 86), F27.kp, ok27, ar_of⟩
  have m_range : mg ("range" : PySem.Str) = none := He.free_ok h.X0 h.G0 (h.c.fact 5)
  have g2 : GlOk (gm K) P w mg base 3 ("_law_pick" : PySem.Str) 2 [0] B__law_pick _ fd2 [("_law_pen_here" : PySem.Str), ("_law_some" : PySem.Str)] := ⟨He.glo_ok h.X0 h.G0 (h.c.fact 4), F2.kp, ok2, ar_of⟩
  have g1 : GlOk (gm K) P w mg base 2 ("_law_draw" : PySem.Str) 2 [0] B__law_draw _ fd1 [("_law_pen_here" : PySem.Str), ("_law_many" : PySem.Str)] := ⟨He.glo_ok h.X0 h.G0 (h.c.fact 3), F1.kp, ok1, ar_of⟩
  have ht_add : ∀ c B, List.lookup c [(0, B_Ratio___add__)] = some B → (∃ f fd ps, OwnOk (gm K) P w mg base 6 ("__add__" : PySem.Str) c B f fd ps 2) ∧ BinOk (gm K) ("__add__" : PySem.Str) ("__radd__" : PySem.Str) ["int"] [0, 1] c := (lk_cons ⟨⟨_, fd7, [("self" : PySem.Str), ("other" : PySem.Str)], (He.meth_ok (h.c.fact 28)).at_, (He.meth_ok (h.c.fact 28)).fn, fn_up ok7 (by decide), F7.bindsN (ps := [("self" : PySem.Str), ("other" : PySem.Str)]) fun _ _ _ _ _ _ us hl => match us, hl with | [_, _], _ => rfl, ar_of⟩, ⟨(h.c.fact 29), rd_ok (h.c.fact 30), (mem_cons ⟨by decide, biT_ok (h.c.fact 23)⟩ mem_nil), (mem_cons (.inl rfl) (mem_cons (.inr ⟨(sub_ok (h.c.fact 24)).2, (h.c.fact 25), ⟨_, (He.meth_ok (h.c.fact 26)).at_⟩, rd_ok (h.c.fact 27), (sub_ok (h.c.fact 24)).1⟩) mem_nil))⟩⟩ lk_nil)
  have ht_sub : ∀ c B, List.lookup c [(0, B_Ratio___sub__)] = some B → (∃ f fd ps, OwnOk (gm K) P w mg base 7 ("__sub__" : PySem.Str) c B f fd ps 2) ∧ BinOk (gm K) ("__sub__" : PySem.Str) ("__rsub__" : PySem.Str) ["int"] [0, 1] c := (lk_cons ⟨⟨_, fd14, [("self" : PySem.Str), ("other" : PySem.Str)], (He.meth_ok (h.c.fact 55)).at_, (He.meth_ok (h.c.fact 55)).fn, fn_up ok14 (by decide), F14.bindsN (ps := [("self" : PySem.Str), ("other" : PySem.Str)]) fun _ _ _ _ _ _ us hl => match us, hl with | [_, _], _ => rfl, ar_of⟩, ⟨(h.c.fact 29), rd_ok (h.c.fact 56), (mem_cons ⟨by decide, biT_ok (h.c.fact 52)⟩ mem_nil), (mem_cons (.inl rfl) (mem_cons (.inr ⟨(sub_ok (h.c.fact 24)).2, (h.c.fact 25), ⟨_, (He.meth_ok (h.c.fact 53)).at_⟩, rd_ok (h.c.fact 54), (sub_ok (h.c.fact 24)).1⟩) mem_nil))⟩⟩ lk_nil)
  have m_len : mg ("len" : PySem.Str) = none := He.free_ok h.X0 h.G0 (h.c.fact 1)
  have m_max : mg ("max" : PySem.Str) = none := He.free_ok h.X0 h.G0 (h.c.fact 98)
  have g37 : GlOk (gm K) P w mg base 10 ("age_of_news" : PySem.Str) 2 [] B_age_of_news _ fd37 [("tour" : PySem.Str), ("step" : PySem.Str)] := ⟨He.glo_ok h.X0 h.G0 (h.c.fact 99), F37.kp, ok37, ar_of⟩
  have g33 : GlOk (gm K) P w mg base 11 ("_law_lit" : PySem.Str) 2 [] B__law_lit _ fd33 [("_law_right" : PySem.Str), ("_law_left" : PySem.Str)] := ⟨He.glo_ok h.X0 h.G0 (h.c.fact 88), F33.kp, ok33, ar_of⟩
  have g38 : GlOk (gm K) P w mg base 2 ("_law_is_less" : PySem.Str) 2 [] B__law_is_less _ fd38 [("_law_one" : PySem.Str), ("_law_other" : PySem.Str)] := ⟨He.glo_ok h.X0 h.G0 (h.c.fact 100), F38.kp, ok38, ar_of⟩
  have m_isinstance : mg ("isinstance" : PySem.Str) = none := He.free_ok h.X0 h.G0 (h.c.fact 6)
  have pr_sign : ∀ c B, List.lookup c [(0, B_Ratio_sign)] = some B → PrOk (gm K) P w mg base 2 c ("sign" : PySem.Str) B := (lk_cons ⟨(clo0 h).1, _, _, fd19, _, prp_ok (h.c.fact 57), ok19, F19.bindsN (ps := [("self" : PySem.Str)]) fun _ _ _ _ _ _ us hl => match us, hl with | [_], _ => rfl⟩ lk_nil)
  have ht_eqN : ∀ c B, List.lookup c [(0, B_Ratio___eq__)] = some B → (∃ f fd ps, OwnOk (gm K) P w mg base 3 "__eq__" c B f fd ps 2) ∧ CmpOk (gm K) ["int"] [0, 1, 2] c ∧ NeOk (gm K) c := (lk_cons ⟨⟨_, fd28, [("self" : PySem.Str), ("other" : PySem.Str)], (He.meth_ok (h.c.fact 79)).at_, (He.meth_ok (h.c.fact 79)).fn, fn_up ok28 (by decide), F28.bindsN (ps := [("self" : PySem.Str), ("other" : PySem.Str)]) fun _ _ _ _ _ _ us hl => match us, hl with | [_, _], _ => rfl, ar_of⟩, ⟨(mem_cons ⟨by decide, (h.c.fact 75)⟩ mem_nil), (mem_cons (h.c.fact 78) (mem_cons (h.c.fact 77) (mem_cons (h.c.fact 76) mem_nil)))⟩, ⟨eqF_ok (h.c.fact 101), (ty0 h).hm⟩⟩ lk_nil)
  have g32 : GlOk (gm K) P w mg base 12 ("spot_at" : PySem.Str) 2 [] B_spot_at _ fd32 [("tour" : PySem.Str), ("age" : PySem.Str)] := ⟨He.glo_ok h.X0 h.G0 (h.c.fact 87), F32.kp, ok32, ar_of⟩
  have nw5 : NwOk (gm K) P w mg base 3 ("Ratio" : PySem.Str) 0 3 B_Ratio___init__ _ fd5 [("self" : PySem.Str), ("top" : PySem.Str), ("bottom" : PySem.Str)] := ⟨He.glo_ok h.X0 h.G0 (h.c.fact 19), He.mkr_ok (h.c.fact 21), rfl, ok5, ar_of, rfl⟩
  obtain ⟨bd5_3, bd5_3_v, bd5_3_b⟩ := F5.binds1 (ps := [("self" : PySem.Str), ("top" : PySem.Str), ("bottom" : PySem.Str)]) 3 1 (List.cons_ne_nil _ _) rfl fun T kV doc pm an cdv ct us its h1 h2 => ⟨_, rfl, match us, h1, its, h2 with | [_, _, _], _, [_], _ => rfl⟩
  have ht_fl_time : ∀ c i, List.lookup c [(1, 0)] = some i → ClsOk (gm K) c ∧ ((gm K).lay c)[i]? = some ("time" : PySem.Str) := (lk_cons ⟨co1 h, rfl⟩ lk_nil)
  have ht_fl_place : ∀ c i, List.lookup c [(1, 1)] = some i → ClsOk (gm K) c ∧ ((gm K).lay c)[i]? = some ("place" : PySem.Str) := (lk_cons ⟨co1 h, rfl⟩ lk_nil)
  have mt_is_below_1 : ∀ c B, List.lookup c [(0, B_Ratio_is_below)] = some B → ∃ n f fd ps ds dvs, MtOk (gm K) P w mg base 8 c ("is_below" : PySem.Str) n B f fd ps ds dvs ∧ ∀ F, RepL (gm K) F [] dvs := (lk_cons ⟨2, _, fd31, [("self" : PySem.Str), ("other" : PySem.Str)], _, _, ⟨(clo0 h).1, He.meth_ok (h.c.fact 85), fn_up ok31 (by decide), ar_of, (F31.bindsN (ps := [("self" : PySem.Str), ("other" : PySem.Str)]) fun _ _ _ _ _ _ us hl => match us, hl with | [_, _], _ => rfl), .nil⟩, (fun _ => .nil)⟩ lk_nil)
  have hN : N39.Nodup := sc39.nd
  obtain ⟨fd, F⟩ := h.c.def_ 39 (d := d39) rfl
  exact ⟨fd, F, def_ok (G := gm K) (N := N39) (k := 12) (O' := [0]) F sc39 fun cdv A outer s H E hr tk => (s_cons (s_to (O2 := [0]) (s_set 3 (e_ix (e_call tk (hr.mono (by decide)) g27 (F27.bindsN (ps := [("_law_parts_here" : PySem.Str)]) fun _ _ _ _ _ _ us hl => match us, hl with | [_], _ => rfl) .nil (fun _ => .nil) (a_cons (e_var 1) a_nil)) (e_un o_neg e_int)))) (s_cons (s_for (OL := [0]) [4] (i_rng1 (a_cons e_int a_nil)) (g_to (O2 := [0]) (g_name 4)) (s_cons (s_to (O2 := [0]) (s_par2 5 6 (a_cons (e_callO 0 tk (hr.mono (by decide)) g2 (F2.bindsN (ps := [("_law_pen_here" : PySem.Str), ("_law_some" : PySem.Str)]) fun _ _ _ _ _ _ us hl => match us, hl with | [_, _], _ => rfl) (a_cons (e_lst (a_cons e_int (a_cons e_int (a_cons e_int a_nil)))) a_nil)) (a_cons (e_bin (o_bin [(0, B_Ratio___add__)] ["int"] [0, 1] tk (hr.mono (by decide)) o_add ht_add) e_int (e_callO 0 tk (hr.mono (by decide)) g1 (F1.bindsN (ps := [("_law_pen_here" : PySem.Str), ("_law_many" : PySem.Str)]) fun _ _ _ _ _ _ us hl => match us, hl with | [_, _], _ => rfl) (a_cons e_int a_nil))) a_nil)))) (s_cons (s_to (O2 := [0]) (s_par2 7 8 (a_cons (e_tup (a_cons (e_bin (o_bin [(0, B_Ratio___sub__)] ["int"] [0, 1] tk (hr.mono (by decide)) o_sub ht_sub) (e_callO 0 tk (hr.mono (by decide)) g1 (F1.bindsN (ps := [("_law_pen_here" : PySem.Str), ("_law_many" : PySem.Str)]) fun _ _ _ _ _ _ us hl => match us, hl with | [_, _], _ => rfl) (a_cons (e_var 5) a_nil)) (e_bin o_div (e_var 5) e_int)) (a_cons (e_var 6) a_nil))) (a_cons (e_tup (a_cons (e_bin (o_bin [(0, B_Ratio___sub__)] ["int"] [0, 1] tk (hr.mono (by decide)) o_sub ht_sub) (e_callO 0 tk (hr.mono (by decide)) g1 (F1.bindsN (ps := [("_law_pen_here" : PySem.Str), ("_law_many" : PySem.Str)]) fun _ _ _ _ _ _ us hl => match us, hl with | [_, _], _ => rfl) (a_cons (e_var 5) a_nil)) (e_bin o_div (e_var 5) e_int)) (a_cons (e_var 6) a_nil))) a_nil)))) (s_cons (s_to (O2 := [0]) (s_set 9 (e_callO 0 tk (hr.mono (by decide)) g2 (F2.bindsN (ps := [("_law_pen_here" : PySem.Str), ("_law_some" : PySem.Str)]) fun _ _ _ _ _ _ us hl => match us, hl with | [_, _], _ => rfl) (a_cons (e_call tk (hr.mono (by decide)) g27 (F27.bindsN (ps := [("_law_parts_here" : PySem.Str)]) fun _ _ _ _ _ _ us hl => match us, hl with | [_], _ => rfl) .nil (fun _ => .nil) (a_cons (e_var 1) a_nil)) a_nil)))) (s_cons (s_if (t_bo (w_and (t_cmp o_lt (e_len (a_cons (e_var 1) a_nil)) e_int) (w_and1 (t_cmp o_lt (e_max1 (a_cons (e_lcF (vs := [14, 15]) [(("_law_ratio" : PySem.Str), 14), (("_law_beats" : PySem.Str), 15)] rfl (i_seq (e_var 1)) (blkOk_by (by kernel_rfl)) (fun _ _ _ _ _ => (g_tup (gs_cons (g_to (O2 := [0]) (g_name 14)) (gs_cons (g_to (O2 := [0]) (g_name 15)) gs_nil)))) (fun _ _ _ _ _ => pts_no) (fun _ _ _ _ _ => (e_bin (o_bin [(0, B_Ratio___add__)] ["int"] [0, 1] takes_blk (hr.mono (by decide)) o_add ht_add) (e_ix (e_var 14) e_int) (e_ix (e_var 14) e_int)))).fz a_nil)) e_int)))) (s_one (s_to (O2 := [0]) (s_par2 7 8 (a_cons (e_callO 0 tk (hr.mono (by decide)) g2 (F2.bindsN (ps := [("_law_pen_here" : PySem.Str), ("_law_some" : PySem.Str)]) fun _ _ _ _ _ _ us hl => match us, hl with | [_, _], _ => rfl) (a_cons (e_lst (a_cons (e_ix (e_var 9) e_int) (a_cons (e_var 7) a_nil))) a_nil)) (a_cons (e_callO 0 tk (hr.mono (by decide)) g2 (F2.bindsN (ps := [("_law_pen_here" : PySem.Str), ("_law_some" : PySem.Str)]) fun _ _ _ _ _ _ us hl => match us, hl with | [_, _], _ => rfl) (a_cons (e_lst (a_cons (e_ix (e_var 9) e_int) (a_cons (e_var 8) a_nil))) a_nil)) a_nil))))) s_nil) (s_cons (s_to (O2 := [0]) (s_set 10 (e_callK0 tk (hr.mono (by decide)) g37 (bindK0 (ps := [("tour" : PySem.Str), ("step" : PySem.Str)]) F37 0 [("step" : PySem.Str), ("tour" : PySem.Str)] [1, 0] fun _ _ _ _ _ _ us ws h1 h2 => match us, h1, ws, h2 with | [], _, [_, _], _ => rfl) .nil (fun _ => .nil) (k_cons (e_call tk (hr.mono (by decide)) g33 (F33.bindsN (ps := [("_law_right" : PySem.Str), ("_law_left" : PySem.Str)]) fun _ _ _ _ _ _ us hl => match us, hl with | [_, _], _ => rfl) .nil (fun _ => .nil) (a_cons (e_var 7) (a_cons (e_var 8) a_nil))) (k_cons (e_var 2) k_nil))))) (s_cons (s_if (t_bo (w_or (t_val (e_call tk (hr.mono (by decide)) g38 (F38.bindsN (ps := [("_law_one" : PySem.Str), ("_law_other" : PySem.Str)]) fun _ _ _ _ _ _ us hl => match us, hl with | [_, _], _ => rfl) .nil (fun _ => .nil) (a_cons (e_ix (e_var 3) e_int) (a_cons (e_var 7) a_nil)))) (w_or1 (t_val (e_call tk (hr.mono (by decide)) g38 (F38.bindsN (ps := [("_law_one" : PySem.Str), ("_law_other" : PySem.Str)]) fun _ _ _ _ _ _ us hl => match us, hl with | [_, _], _ => rfl) .nil (fun _ => .nil) (a_cons (e_ix (e_var 3) e_int) (a_cons (e_var 8) a_nil))))))) (s_cons (s_if (t_notN (e_var 10)) (s_one (s_ret e_bl)) s_nil) (s_one s_continue)) s_nil) (s_cons (s_if (t_bo (w_or (t_isN (e_var 10)) (w_or (t_not (t_val (e_isi (e_var 10) (cv_own (He.glo_ok h.X0 h.G0 (h.c.fact 19))) (kn_own (k := 0) [(0, true), (1, false), (2, false)] (lk_cons ⟨ty0 h, eqF_ok (h.c.fact 18)⟩ (lk_cons ⟨ty1 h, eqF_ok (h.c.fact 17)⟩ (lk_cons ⟨ty2 h, eqF_ok (h.c.fact 16)⟩ lk_nil))) fun m hm => eqF_ok (List.all_eq_true.mp (h.c.fact 20) m hm))))) (w_or1 (t_cmp o_lt (e_pr [(0, B_Ratio_sign)] (hr.mono (by decide)) (e_var 10) pr_sign) e_int))))) (s_one (s_ret e_bl)) s_nil) (s_cons (s_if (t_bo (w_and (t_cmp o_le (e_ix (e_var 7) e_int) e_int) (w_and1 (t_cmp o_le (e_ix (e_var 8) e_int) e_int)))) (s_cons (s_if (t_cmp (o_neW [(0, B_Ratio___eq__)] ["int"] [0, 1, 2] tk (hr.mono (by decide)) (o_ne hr) ht_eqN) (e_var 10) e_int) (s_one (s_ret e_bl)) s_nil) (s_one s_continue)) s_nil) (s_cons (s_to (O2 := [0]) (s_par2 11 12 (a_cons (e_call tk (hr.mono (by decide)) g32 (F32.bindsN (ps := [("tour" : PySem.Str), ("age" : PySem.Str)]) fun _ _ _ _ _ _ us hl => match us, hl with | [_, _], _ => rfl) .nil (fun _ => .nil) (a_cons (e_var 2) (a_cons (e_var 10) a_nil))) (a_cons (e_tup (a_cons (e_new tk (hr.mono (by decide)) nw5 bd5_3_b bd5_3_v (fun _ => .nil) (a_cons (e_ix (e_var 7) e_int) (a_cons (e_ix (e_var 7) e_int) a_nil))) (a_cons (e_new tk (hr.mono (by decide)) nw5 bd5_3_b bd5_3_v (fun _ => .nil) (a_cons (e_ix (e_var 8) e_int) (a_cons (e_ix (e_var 8) e_int) a_nil))) a_nil))) a_nil)))) (s_cons (s_to (O2 := [0]) (s_set 13 (e_tup (a_cons (e_bin (o_bin [(0, B_Ratio___sub__)] ["int"] [0, 1] tk (hr.mono (by decide)) o_sub ht_sub) (e_fl [(1, 0)] (e_var 11) ht_fl_time) (e_ix (e_fl [(1, 1)] (e_var 11) ht_fl_place) e_int)) (a_cons (e_bin (o_bin [(0, B_Ratio___add__)] ["int"] [0, 1] tk (hr.mono (by decide)) o_add ht_add) (e_fl [(1, 0)] (e_var 11) ht_fl_time) (e_ix (e_fl [(1, 1)] (e_var 11) ht_fl_place) e_int)) a_nil))))) (s_one (s_if (t_bo (w_or (t_val (e_meth [(0, B_Ratio_is_below)] tk (hr.mono (by decide)) (show ("is_below" : PySem.Str) ∉ flds by decide +kernel) (e_ix (e_var 13) e_int) (a_cons (e_ix (e_var 12) e_int) a_nil) mt_is_below_1)) (w_or (t_val (e_meth [(0, B_Ratio_is_below)] tk (hr.mono (by decide)) (show ("is_below" : PySem.Str) ∉ flds by decide +kernel) (e_ix (e_var 13) e_int) (a_cons (e_ix (e_var 12) e_int) a_nil) mt_is_below_1)) (w_or1 (t_bo (w_and (t_cmp (o_neW [(0, B_Ratio___eq__)] ["int"] [0, 1, 2] tk (hr.mono (by decide)) (o_ne hr) ht_eqN) (e_ix (e_var 13) e_int) (e_ix (e_var 12) e_int)) (w_and1 (t_cmp (o_neW [(0, B_Ratio___eq__)] ["int"] [0, 1, 2] tk (hr.mono (by decide)) (o_ne hr) ht_eqN) (e_ix (e_var 13) e_int) (e_ix (e_var 12) e_int))))))))) (s_one (s_ret e_bl)) s_nil)))))))))))) (passes_of rfl)) (s_one (s_ret e_bl))))⟩
theorem ok_40 {P : Program} {w : World} {K : PySem.W.Frag} {mg : Str → Option Value} {base : Heap} (h : Hy K mg base) : ∃ fd, FunD K d40.name d40.qual d40.params d40.body d40.scope (d40.dvs K) [] (d40.wh.ad K) fd ∧ FnB P w (gm K) mg base 2 (d40.wh.ad K) fd [("one" : PySem.Str), ("other" : PySem.Str)] 2 [] B_need_axes := by
  have ht_fl_axes : ∀ c i, List.lookup c [(1, 2)] = some i → ClsOk (gm K) c ∧ ((gm K).lay c)[i]? = some ("axes" : PySem.Str) := (lk_cons ⟨co1 h, rfl⟩ lk_nil)
  have hN : N40.Nodup := sc40.nd
  obtain ⟨fd, F⟩ := h.c.def_ 40 (d := d40) rfl
  exact ⟨fd, F, def_ok (G := gm K) (N := N40) (k := 1) (O' := []) F sc40 fun cdv A outer s H E hr tk => (s_one (s_if (t_cmp (o_ne hr) (e_fl [(1, 2)] (e_var 0) ht_fl_axes) (e_fl [(1, 2)] (e_var 1) ht_fl_axes)) (s_one s_no) s_nil))⟩
theorem ok_41 {P : Program} {w : World} {K : PySem.W.Frag} {mg : Str → Option Value} {base : Heap} (h : Hy K mg base) : ∃ fd, FunD K d41.name d41.qual d41.params d41.body d41.scope (d41.dvs K) [] (d41.wh.ad K) fd ∧ FnB P w (gm K) mg base 11 (d41.wh.ad K) fd [("self" : PySem.Str), ("other" : PySem.Str)] 2 [] B_Step___add__ := by
  obtain ⟨fd35, F35, ok35⟩ := ok_35 (P := P) (w := w) h
  obtain ⟨fd40, F40, ok40⟩ := ok_40 (P := P) (w := w) h
  obtain ⟨fd21, F21, ok21⟩ := ok_21 (P := P) (w := w) h
  obtain ⟨fd7, F7, ok7⟩ := ok_7 (P := P) (w := w) h
  have g35 : GlOk (gm K) P w mg base 2 ("need_step" : PySem.Str) 2 [] B_need_step _ fd35 [("value" : PySem.Str), ("part" : PySem.Str)] := ⟨He.glo_ok h.X0 h.G0 (h.c.fact 96), F35.kp, ok35, ar_of⟩
  have g40 : GlOk (gm K) P w mg base 2 ("need_axes" : PySem.Str) 2 [] B_need_axes _ fd40 [("one" : PySem.Str), ("other" : PySem.Str)] := ⟨He.glo_ok h.X0 h.G0 (h.c.fact 102), F40.kp, ok40, ar_of⟩
  have nw21 : NwOk (gm K) P w mg base 9 ("Step" : PySem.Str) 1 3 B_Step___init__ _ fd21 [("self" : PySem.Str), ("time" : PySem.Str), ("place" : PySem.Str)] := ⟨He.glo_ok h.X0 h.G0 (h.c.fact 62), He.mkr_ok (h.c.fact 63), rfl, ok21, ar_of, rfl⟩
  have ht_fl_time : ∀ c i, List.lookup c [(1, 0)] = some i → ClsOk (gm K) c ∧ ((gm K).lay c)[i]? = some ("time" : PySem.Str) := (lk_cons ⟨co1 h, rfl⟩ lk_nil)
  have ht_add : ∀ c B, List.lookup c [(0, B_Ratio___add__)] = some B → (∃ f fd ps, OwnOk (gm K) P w mg base 6 ("__add__" : PySem.Str) c B f fd ps 2) ∧ BinOk (gm K) ("__add__" : PySem.Str) ("__radd__" : PySem.Str) ["int"] [0, 1] c := (lk_cons ⟨⟨_, fd7, [("self" : PySem.Str), ("other" : PySem.Str)], (He.meth_ok (h.c.fact 28)).at_, (He.meth_ok (h.c.fact 28)).fn, fn_up ok7 (by decide), F7.bindsN (ps := [("self" : PySem.Str), ("other" : PySem.Str)]) fun _ _ _ _ _ _ us hl => match us, hl with | [_, _], _ => rfl, ar_of⟩, ⟨(h.c.fact 29), rd_ok (h.c.fact 30), (mem_cons ⟨by decide, biT_ok (h.c.fact 23)⟩ mem_nil), (mem_cons (.inl rfl) (mem_cons (.inr ⟨(sub_ok (h.c.fact 24)).2, (h.c.fact 25), ⟨_, (He.meth_ok (h.c.fact 26)).at_⟩, rd_ok (h.c.fact 27), (sub_ok (h.c.fact 24)).1⟩) mem_nil))⟩⟩ lk_nil)
  have m_zip : mg ("zip" : PySem.Str) = none := He.free_ok h.X0 h.G0 (h.c.fact 51)
  have ht_fl_place : ∀ c i, List.lookup c [(1, 1)] = some i → ClsOk (gm K) c ∧ ((gm K).lay c)[i]? = some ("place" : PySem.Str) := (lk_cons ⟨co1 h, rfl⟩ lk_nil)
  have hN : N41.Nodup := sc41.nd
  obtain ⟨fd, F⟩ := h.c.def_ 41 (d := d41) rfl
  exact ⟨fd, F, def_ok (G := gm K) (N := N41) (k := 10) (O' := []) F sc41 fun cdv A outer s H E hr tk => (s_cons (s_expr (e_call tk (hr.mono (by decide)) g35 (F35.bindsN (ps := [("value" : PySem.Str), ("part" : PySem.Str)]) fun _ _ _ _ _ _ us hl => match us, hl with | [_, _], _ => rfl) .nil (fun _ => .nil) (a_cons (e_var 1) (a_cons e_str a_nil)))) (s_cons (s_expr (e_call tk (hr.mono (by decide)) g40 (F40.bindsN (ps := [("one" : PySem.Str), ("other" : PySem.Str)]) fun _ _ _ _ _ _ us hl => match us, hl with | [_, _], _ => rfl) .nil (fun _ => .nil) (a_cons (e_var 0) (a_cons (e_var 1) a_nil)))) (s_one (s_ret (e_new tk (hr.mono (by decide)) nw21 (F21.bindsN (ps := [("self" : PySem.Str), ("time" : PySem.Str), ("place" : PySem.Str)]) fun _ _ _ _ _ _ us hl => match us, hl with | [_, _, _], _ => rfl) .nil (fun _ => .nil) (a_cons (e_bin (o_bin [(0, B_Ratio___add__)] ["int"] [0, 1] tk (hr.mono (by decide)) o_add ht_add) (e_fl [(1, 0)] (e_var 0) ht_fl_time) (e_fl [(1, 0)] (e_var 1) ht_fl_time)) (a_cons (e_lcF (vs := [2, 3]) [(("mine" : PySem.Str), 2), (("its" : PySem.Str), 3)] rfl (i_zip (a_cons (e_fl [(1, 1)] (e_var 0) ht_fl_place) (a_cons (e_fl [(1, 1)] (e_var 1) ht_fl_place) a_nil))) (blkOk_by (by kernel_rfl)) (fun _ _ _ _ _ => (g_tup (gs_cons (g_to (O2 := []) (g_name 2)) (gs_cons (g_to (O2 := []) (g_name 3)) gs_nil)))) (fun _ _ _ _ _ => pts_no) (fun _ _ _ _ _ => (e_bin (o_bin [(0, B_Ratio___add__)] ["int"] [0, 1] takes_blk (hr.mono (by decide)) o_add ht_add) (e_var 2) (e_var 3)))).fz a_nil)))))))⟩
theorem ok_42 {P : Program} {w : World} {K : PySem.W.Frag} {mg : Str → Option Value} {base : Heap} (h : Hy K mg base) : ∃ fd, FunD K d42.name d42.qual d42.params d42.body d42.scope (d42.dvs K) [] (d42.wh.ad K) fd ∧ FnB P w (gm K) mg base 11 (d42.wh.ad K) fd [("self" : PySem.Str)] 1 [] B_Step___neg__ := by
  obtain ⟨fd21, F21, ok21⟩ := ok_21 (P := P) (w := w) h
  obtain ⟨fd13, F13, ok13⟩ := ok_13 (P := P) (w := w) h
  have nw21 : NwOk (gm K) P w mg base 9 ("Step" : PySem.Str) 1 3 B_Step___init__ _ fd21 [("self" : PySem.Str), ("time" : PySem.Str), ("place" : PySem.Str)] := ⟨He.glo_ok h.X0 h.G0 (h.c.fact 62), He.mkr_ok (h.c.fact 63), rfl, ok21, ar_of, rfl⟩
  have ht_fl_time : ∀ c i, List.lookup c [(1, 0)] = some i → ClsOk (gm K) c ∧ ((gm K).lay c)[i]? = some ("time" : PySem.Str) := (lk_cons ⟨co1 h, rfl⟩ lk_nil)
  have ht_neg : ∀ c B, List.lookup c [(0, B_Ratio___neg__)] = some B → ∃ f fd ps, OwnOk (gm K) P w mg base 5 "__neg__" c B f fd ps 1 := (lk_cons ⟨_, fd13, [("self" : PySem.Str)], (He.meth_ok (h.c.fact 45)).at_, (He.meth_ok (h.c.fact 45)).fn, fn_up ok13 (by decide), F13.bindsN (ps := [("self" : PySem.Str)]) fun _ _ _ _ _ _ us hl => match us, hl with | [_], _ => rfl, ar_of⟩ lk_nil)
  have ht_fl_place : ∀ c i, List.lookup c [(1, 1)] = some i → ClsOk (gm K) c ∧ ((gm K).lay c)[i]? = some ("place" : PySem.Str) := (lk_cons ⟨co1 h, rfl⟩ lk_nil)
  have hN : N42.Nodup := sc42.nd
  obtain ⟨fd, F⟩ := h.c.def_ 42 (d := d42) rfl
  exact ⟨fd, F, def_ok (G := gm K) (N := N42) (k := 10) (O' := []) F sc42 fun cdv A outer s H E hr tk => (s_one (s_ret (e_new tk (hr.mono (by decide)) nw21 (F21.bindsN (ps := [("self" : PySem.Str), ("time" : PySem.Str), ("place" : PySem.Str)]) fun _ _ _ _ _ _ us hl => match us, hl with | [_, _, _], _ => rfl) .nil (fun _ => .nil) (a_cons (e_un (o_negW [(0, B_Ratio___neg__)] tk (hr.mono (by decide)) o_neg ht_neg) (e_fl [(1, 0)] (e_var 0) ht_fl_time)) (a_cons (e_lcF (vs := [1]) [(("each" : PySem.Str), 1)] rfl (i_seq (e_fl [(1, 1)] (e_var 0) ht_fl_place)) (blkOk_by (by kernel_rfl)) (fun _ _ _ _ _ => (g_to (O2 := []) (g_name 1))) (fun _ _ _ _ _ => pts_no) (fun _ _ _ _ _ => (e_un (o_negW [(0, B_Ratio___neg__)] takes_blk (hr.mono (by decide)) o_neg ht_neg) (e_var 1)))).fz a_nil)))))⟩
theorem ok_43 {P : Program} {w : World} {K : PySem.W.Frag} {mg : Str → Option Value} {base : Heap} (h : Hy K mg base) : ∃ fd, FunD K d43.name d43.qual d43.params d43.body d43.scope (d43.dvs K) [] (d43.wh.ad K) fd ∧ FnB P w (gm K) mg base 12 (d43.wh.ad K) fd [("self" : PySem.Str), ("other" : PySem.Str)] 2 [] B_Step___sub__ := by
  obtain ⟨fd35, F35, ok35⟩ := ok_35 (P := P) (w := w) h
  obtain ⟨fd42, F42, ok42⟩ := ok_42 (P := P) (w := w) h
  obtain ⟨fd41, F41, ok41⟩ := ok_41 (P := P) (w := w) h
  have g35 : GlOk (gm K) P w mg base 2 ("need_step" : PySem.Str) 2 [] B_need_step _ fd35 [("value" : PySem.Str), ("part" : PySem.Str)] := ⟨He.glo_ok h.X0 h.G0 (h.c.fact 96), F35.kp, ok35, ar_of⟩
  have ht_neg : ∀ c B, List.lookup c [(1, B_Step___neg__)] = some B → ∃ f fd ps, OwnOk (gm K) P w mg base 11 "__neg__" c B f fd ps 1 := (lk_cons ⟨_, fd42, [("self" : PySem.Str)], (He.meth_ok (h.c.fact 103)).at_, (He.meth_ok (h.c.fact 103)).fn, fn_up ok42 (by decide), F42.bindsN (ps := [("self" : PySem.Str)]) fun _ _ _ _ _ _ us hl => match us, hl with | [_], _ => rfl, ar_of⟩ lk_nil)
  have ht_add : ∀ c B, List.lookup c [(1, B_Step___add__)] = some B → (∃ f fd ps, OwnOk (gm K) P w mg base 11 ("__add__" : PySem.Str) c B f fd ps 2) ∧ BinOk (gm K) ("__add__" : PySem.Str) ("__radd__" : PySem.Str) ["int"] [0, 1] c := (lk_cons ⟨⟨_, fd41, [("self" : PySem.Str), ("other" : PySem.Str)], (He.meth_ok (h.c.fact 26)).at_, (He.meth_ok (h.c.fact 26)).fn, fn_up ok41 (by decide), F41.bindsN (ps := [("self" : PySem.Str), ("other" : PySem.Str)]) fun _ _ _ _ _ _ us hl => match us, hl with | [_, _], _ => rfl, ar_of⟩, ⟨(h.c.fact 25), rd_ok (h.c.fact 27), (mem_cons ⟨by decide, biT_ok (h.c.fact 104)⟩ mem_nil), (mem_cons (.inr ⟨(sub_ok (h.c.fact 105)).2, (h.c.fact 29), ⟨_, (He.meth_ok (h.c.fact 28)).at_⟩, rd_ok (h.c.fact 30), (sub_ok (h.c.fact 105)).1⟩) (mem_cons (.inl rfl) mem_nil))⟩⟩ lk_nil)
  have hN : N43.Nodup := sc43.nd
  obtain ⟨fd, F⟩ := h.c.def_ 43 (d := d43) rfl
  exact ⟨fd, F, def_ok (G := gm K) (N := N43) (k := 11) (O' := []) F sc43 fun cdv A outer s H E hr tk => (s_cons (s_expr (e_call tk (hr.mono (by decide)) g35 (F35.bindsN (ps := [("value" : PySem.Str), ("part" : PySem.Str)]) fun _ _ _ _ _ _ us hl => match us, hl with | [_, _], _ => rfl) .nil (fun _ => .nil) (a_cons (e_var 1) (a_cons e_str a_nil)))) (s_one (s_ret (e_bin (o_bin [(1, B_Step___add__)] ["int"] [0, 1] tk (hr.mono (by decide)) o_add ht_add) (e_var 0) (e_un (o_negW [(1, B_Step___neg__)] tk (hr.mono (by decide)) o_neg ht_neg) (e_var 1))))))⟩
theorem ok_44 {P : Program} {w : World} {K : PySem.W.Frag} {mg : Str → Option Value} {base : Heap} (h : Hy K mg base) : ∃ fd, FunD K d44.name d44.qual d44.params d44.body d44.scope (d44.dvs K) [] (d44.wh.ad K) fd ∧ FnB P w (gm K) mg base 3 (d44.wh.ad K) fd [("tour" : PySem.Str)] 1 [] B_straight_square := by
  obtain ⟨fd30, F30, ok30⟩ := ok_30 (P := P) (w := w) h
  have g30 : GlOk (gm K) P w mg base 2 ("need_tour" : PySem.Str) 2 [] B_need_tour _ fd30 [("value" : PySem.Str), ("part" : PySem.Str)] := ⟨He.glo_ok h.X0 h.G0 (h.c.fact 84), F30.kp, ok30, ar_of⟩
  have ht_fl_step : ∀ c i, List.lookup c [(2, 3)] = some i → ClsOk (gm K) c ∧ ((gm K).lay c)[i]? = some ("step" : PySem.Str) := (lk_cons ⟨co2 h, rfl⟩ lk_nil)
  have ht_fl_square : ∀ c i, List.lookup c [(1, 3)] = some i → ClsOk (gm K) c ∧ ((gm K).lay c)[i]? = some ("square" : PySem.Str) := (lk_cons ⟨co1 h, rfl⟩ lk_nil)
  have hN : N44.Nodup := sc44.nd
  obtain ⟨fd, F⟩ := h.c.def_ 44 (d := d44) rfl
  exact ⟨fd, F, def_ok (G := gm K) (N := N44) (k := 2) (O' := []) F sc44 fun cdv A outer s H E hr tk => (s_cons (s_expr (e_call tk (hr.mono (by decide)) g30 (F30.bindsN (ps := [("value" : PySem.Str), ("part" : PySem.Str)]) fun _ _ _ _ _ _ us hl => match us, hl with | [_, _], _ => rfl) .nil (fun _ => .nil) (a_cons (e_var 0) (a_cons e_str a_nil)))) (s_one (s_ret (e_fl [(1, 3)] (e_fl [(2, 3)] (e_var 0) ht_fl_step) ht_fl_square))))⟩
theorem ok_45 {P : Program} {w : World} {K : PySem.W.Frag} {mg : Str → Option Value} {base : Heap} (h : Hy K mg base) : ∃ fd, FunD K d45.name d45.qual d45.params d45.body d45.scope (d45.dvs K) [] (d45.wh.ad K) fd ∧ FnB P w (gm K) mg base 13 (d45.wh.ad K) fd [("_law_parts_here" : PySem.Str), ("_law_tour_here" : PySem.Str)] 2 [] B__law_sums_right := by
  obtain ⟨fd27, F27, ok27⟩ := ok_27 (P := P) (w := w) h
  obtain ⟨fd33, F33, ok33⟩ := ok_33 (P := P) (w := w) h
  obtain ⟨fd28, F28, ok28⟩ := ok_28 (P := P) (w := w) h
  obtain ⟨fd29, F29, ok29⟩ := ok_29 (P := P) (w := w) h
  obtain ⟨fd5, F5, ok5⟩ := ok_5 (P := P) (w := w) h
  obtain ⟨fd44, F44, ok44⟩ := ok_44 (P := P) (w := w) h
  obtain ⟨fd9, F9, ok9⟩ := ok_9 (P := P) (w := w) h
  obtain ⟨fd43, F43, ok43⟩ := ok_43 (P := P) (w := w) h
  obtain ⟨fd14, F14, ok14⟩ := ok_14 (P := P) (w := w) h
  obtain ⟨fd19, F19, ok19⟩ := ok_19 (P := P) (w := w) h
  have g27 : GlOk (gm K) P w mg base 3 ("_law_lights" : PySem.Str) 1 [] B__law_lights _ fd27 [("_law_parts_here" : PySem.Str)] := ⟨He.glo_ok h.X0 h.G0 (h.c.fact 86), F27.kp, ok27, ar_of⟩
  have m_isinstance : mg ("isinstance" : PySem.Str) = none := He.free_ok h.X0 h.G0 (h.c.fact 6)
  have ht_fl_spots : ∀ c i, List.lookup c [(2, 1)] = some i → ClsOk (gm K) c ∧ ((gm K).lay c)[i]? = some ("spots" : PySem.Str) := (lk_cons ⟨co2 h, rfl⟩ lk_nil)
  have m_tuple : mg ("tuple" : PySem.Str) = none := He.free_ok h.X0 h.G0 (h.c.fact 37)
  have g33 : GlOk (gm K) P w mg base 11 ("_law_lit" : PySem.Str) 2 [] B__law_lit _ fd33 [("_law_right" : PySem.Str), ("_law_left" : PySem.Str)] := ⟨He.glo_ok h.X0 h.G0 (h.c.fact 88), F33.kp, ok33, ar_of⟩
  have ht_eq : ∀ c B, List.lookup c [(0, B_Ratio___eq__), (1, B_Step___eq__)] = some B → (∃ f fd ps, OwnOk (gm K) P w mg base 5 ("__eq__" : PySem.Str) c B f fd ps 2) ∧ CmpOk (gm K) ["int"] [0, 1, 2] c := (lk_cons ⟨⟨_, fd28, [("self" : PySem.Str), ("other" : PySem.Str)], (He.meth_ok (h.c.fact 79)).at_, (He.meth_ok (h.c.fact 79)).fn, fn_up ok28 (by decide), F28.bindsN (ps := [("self" : PySem.Str), ("other" : PySem.Str)]) fun _ _ _ _ _ _ us hl => match us, hl with | [_, _], _ => rfl, ar_of⟩, ⟨(mem_cons ⟨by decide, (h.c.fact 75)⟩ mem_nil), (mem_cons (h.c.fact 78) (mem_cons (h.c.fact 77) (mem_cons (h.c.fact 76) mem_nil)))⟩⟩ (lk_cons ⟨⟨_, fd29, [("self" : PySem.Str), ("other" : PySem.Str)], (He.meth_ok (h.c.fact 93)).at_, (He.meth_ok (h.c.fact 93)).fn, fn_up ok29 (by decide), F29.bindsN (ps := [("self" : PySem.Str), ("other" : PySem.Str)]) fun _ _ _ _ _ _ us hl => match us, hl with | [_, _], _ => rfl, ar_of⟩, ⟨(mem_cons ⟨by decide, (h.c.fact 89)⟩ mem_nil), (mem_cons (h.c.fact 92) (mem_cons (h.c.fact 91) (mem_cons (h.c.fact 90) mem_nil)))⟩⟩ lk_nil))
  have ht_fl_step : ∀ c i, List.lookup c [(2, 3)] = some i → ClsOk (gm K) c ∧ ((gm K).lay c)[i]? = some ("step" : PySem.Str) := (lk_cons ⟨co2 h, rfl⟩ lk_nil)
  have ht_eqN : ∀ c B, List.lookup c [(0, B_Ratio___eq__), (1, B_Step___eq__)] = some B → (∃ f fd ps, OwnOk (gm K) P w mg base 5 "__eq__" c B f fd ps 2) ∧ CmpOk (gm K) ["int"] [0, 1, 2] c ∧ NeOk (gm K) c := (lk_cons ⟨⟨_, fd28, [("self" : PySem.Str), ("other" : PySem.Str)], (He.meth_ok (h.c.fact 79)).at_, (He.meth_ok (h.c.fact 79)).fn, fn_up ok28 (by decide), F28.bindsN (ps := [("self" : PySem.Str), ("other" : PySem.Str)]) fun _ _ _ _ _ _ us hl => match us, hl with | [_, _], _ => rfl, ar_of⟩, ⟨(mem_cons ⟨by decide, (h.c.fact 75)⟩ mem_nil), (mem_cons (h.c.fact 78) (mem_cons (h.c.fact 77) (mem_cons (h.c.fact 76) mem_nil)))⟩, ⟨eqF_ok (h.c.fact 101), (ty0 h).hm⟩⟩ (lk_cons ⟨⟨_, fd29, [("self" : PySem.Str), ("other" : PySem.Str)], (He.meth_ok (h.c.fact 93)).at_, (He.meth_ok (h.c.fact 93)).fn, fn_up ok29 (by decide), F29.bindsN (ps := [("self" : PySem.Str), ("other" : PySem.Str)]) fun _ _ _ _ _ _ us hl => match us, hl with | [_, _], _ => rfl, ar_of⟩, ⟨(mem_cons ⟨by decide, (h.c.fact 89)⟩ mem_nil), (mem_cons (h.c.fact 92) (mem_cons (h.c.fact 91) (mem_cons (h.c.fact 90) mem_nil)))⟩, ⟨eqF_ok (h.c.fact 94), (ty1 h).hm⟩⟩ lk_nil))
  have ht_fl_age : ∀ c i, List.lookup c [(2, 2)] = some i → ClsOk (gm K) c ∧ ((gm K).lay c)[i]? = some ("age" : PySem.Str) := (lk_cons ⟨co2 h, rfl⟩ lk_nil)
  have nw5 : NwOk (gm K) P w mg base 3 ("Ratio" : PySem.Str) 0 3 B_Ratio___init__ _ fd5 [("self" : PySem.Str), ("top" : PySem.Str), ("bottom" : PySem.Str)] := ⟨He.glo_ok h.X0 h.G0 (h.c.fact 19), He.mkr_ok (h.c.fact 21), rfl, ok5, ar_of, rfl⟩
  obtain ⟨bd5_3, bd5_3_v, bd5_3_b⟩ := F5.binds1 (ps := [("self" : PySem.Str), ("top" : PySem.Str), ("bottom" : PySem.Str)]) 3 1 (List.cons_ne_nil _ _) rfl fun T kV doc pm an cdv ct us its h1 h2 => ⟨_, rfl, match us, h1, its, h2 with | [_, _, _], _, [_], _ => rfl⟩
  have g44 : GlOk (gm K) P w mg base 3 ("straight_square" : PySem.Str) 1 [] B_straight_square _ fd44 [("tour" : PySem.Str)] := ⟨He.glo_ok h.X0 h.G0 (h.c.fact 106), F44.kp, ok44, ar_of⟩
  have ht_mul : ∀ c B, List.lookup c [(0, B_Ratio___mul__)] = some B → (∃ f fd ps, OwnOk (gm K) P w mg base 6 ("__mul__" : PySem.Str) c B f fd ps 2) ∧ BinOk (gm K) ("__mul__" : PySem.Str) ("__rmul__" : PySem.Str) ["int"] [0, 1] c := (lk_cons ⟨⟨_, fd9, [("self" : PySem.Str), ("other" : PySem.Str)], (He.meth_ok (h.c.fact 35)).at_, (He.meth_ok (h.c.fact 35)).fn, fn_up ok9 (by decide), F9.bindsN (ps := [("self" : PySem.Str), ("other" : PySem.Str)]) fun _ _ _ _ _ _ us hl => match us, hl with | [_, _], _ => rfl, ar_of⟩, ⟨(h.c.fact 29), rd_ok (h.c.fact 36), (mem_cons ⟨by decide, biT_ok (h.c.fact 32)⟩ mem_nil), (mem_cons (.inl rfl) (mem_cons (.inr ⟨(sub_ok (h.c.fact 24)).2, (h.c.fact 25), ⟨_, (He.meth_ok (h.c.fact 33)).at_⟩, rd_ok (h.c.fact 34), (sub_ok (h.c.fact 24)).1⟩) mem_nil))⟩⟩ lk_nil)
  have m_range : mg ("range" : PySem.Str) = none := He.free_ok h.X0 h.G0 (h.c.fact 5)
  have m_len : mg ("len" : PySem.Str) = none := He.free_ok h.X0 h.G0 (h.c.fact 1)
  have ht_sub : ∀ c B, List.lookup c [(1, B_Step___sub__), (0, B_Ratio___sub__)] = some B → (∃ f fd ps, OwnOk (gm K) P w mg base 12 ("__sub__" : PySem.Str) c B f fd ps 2) ∧ BinOk (gm K) ("__sub__" : PySem.Str) ("__rsub__" : PySem.Str) ["int"] [0, 1] c := (lk_cons ⟨⟨_, fd43, [("self" : PySem.Str), ("other" : PySem.Str)], (He.meth_ok (h.c.fact 53)).at_, (He.meth_ok (h.c.fact 53)).fn, fn_up ok43 (by decide), F43.bindsN (ps := [("self" : PySem.Str), ("other" : PySem.Str)]) fun _ _ _ _ _ _ us hl => match us, hl with | [_, _], _ => rfl, ar_of⟩, ⟨(h.c.fact 25), rd_ok (h.c.fact 54), (mem_cons ⟨by decide, biT_ok (h.c.fact 107)⟩ mem_nil), (mem_cons (.inr ⟨(sub_ok (h.c.fact 105)).2, (h.c.fact 29), ⟨_, (He.meth_ok (h.c.fact 55)).at_⟩, rd_ok (h.c.fact 56), (sub_ok (h.c.fact 105)).1⟩) (mem_cons (.inl rfl) mem_nil))⟩⟩ (lk_cons ⟨⟨_, fd14, [("self" : PySem.Str), ("other" : PySem.Str)], (He.meth_ok (h.c.fact 55)).at_, (He.meth_ok (h.c.fact 55)).fn, fn_up ok14 (by decide), F14.bindsN (ps := [("self" : PySem.Str), ("other" : PySem.Str)]) fun _ _ _ _ _ _ us hl => match us, hl with | [_, _], _ => rfl, ar_of⟩, ⟨(h.c.fact 29), rd_ok (h.c.fact 56), (mem_cons ⟨by decide, biT_ok (h.c.fact 52)⟩ mem_nil), (mem_cons (.inl rfl) (mem_cons (.inr ⟨(sub_ok (h.c.fact 24)).2, (h.c.fact 25), ⟨_, (He.meth_ok (h.c.fact 53)).at_⟩, rd_ok (h.c.fact 54), (sub_ok (h.c.fact 24)).1⟩) mem_nil))⟩⟩ lk_nil))
  have ht_fl_kind : ∀ c i, List.lookup c [(1, 4)] = some i → ClsOk (gm K) c ∧ ((gm K).lay c)[i]? = some ("kind" : PySem.Str) := (lk_cons ⟨co1 h, rfl⟩ lk_nil)
  have pr_sign : ∀ c B, List.lookup c [(0, B_Ratio_sign)] = some B → PrOk (gm K) P w mg base 2 c ("sign" : PySem.Str) B := (lk_cons ⟨(clo0 h).1, _, _, fd19, _, prp_ok (h.c.fact 57), ok19, F19.bindsN (ps := [("self" : PySem.Str)]) fun _ _ _ _ _ _ us hl => match us, hl with | [_], _ => rfl⟩ lk_nil)
  have hN : N45.Nodup := sc45.nd
  obtain ⟨fd, F⟩ := h.c.def_ 45 (d := d45) rfl
  exact ⟨fd, F, def_ok (G := gm K) (N := N45) (k := 12) (O' := []) F sc45 fun cdv A outer s H E hr tk => (s_cons (s_to (O2 := []) (s_set 2 (e_call tk (hr.mono (by decide)) g27 (F27.bindsN (ps := [("_law_parts_here" : PySem.Str)]) fun _ _ _ _ _ _ us hl => match us, hl with | [_], _ => rfl) .nil (fun _ => .nil) (a_cons (e_var 0) a_nil)))) (s_cons (s_asg (vs := [0, 1, 2, 3, 4, 5, 6, 7, 8, 9, 10]) (e_ix (e_var 2) (e_un o_neg e_int)) (g_tup (gs_cons (g_to (O2 := []) (g_name 3)) (gs_cons (g_to (O2 := []) (g_name 4)) (gs_cons (g_to (O2 := []) (g_name 5)) gs_nil))))) (s_cons (s_if (t_bo (w_or (t_not (t_val (e_isi (e_fl [(2, 1)] (e_var 1) ht_fl_spots) cv_ty (kn_ty (n := "tuple") [0, 1, 2] (mem_cons ⟨ty0 h, eqF_ok (h.c.fact 40)⟩ (mem_cons ⟨ty1 h, eqF_ok (h.c.fact 39)⟩ (mem_cons ⟨ty2 h, eqF_ok (h.c.fact 38)⟩ mem_nil))))))) (w_or (t_cmp (o_neY 0 [(0, B_Ratio___eq__), (1, B_Step___eq__)] ["int"] [0, 1, 2] tk (hr.mono (by decide)) ht_eq) (e_fl [(2, 1)] (e_var 1) ht_fl_spots) (e_tuple (a_cons (e_lcF (vs := [8]) [(("_law_one" : PySem.Str), 8)] rfl (i_seq (e_var 2)) (blkOk_by (by kernel_rfl)) (fun _ _ _ _ _ => (g_to (O2 := []) (g_name 8))) (fun _ _ _ _ _ => pts_no) (fun _ _ _ _ _ => (e_call takes_blk (hr.mono (by decide)) g33 (F33.bindsN (ps := [("_law_right" : PySem.Str), ("_law_left" : PySem.Str)]) fun _ _ _ _ _ _ us hl => match us, hl with | [_, _], _ => rfl) .nil (fun _ => .nil) (a_cons (e_ix (e_var 8) e_int) (a_cons (e_ix (e_var 8) e_int) a_nil))))).fz a_nil))) (w_or1 (t_cmp (o_neW [(0, B_Ratio___eq__), (1, B_Step___eq__)] ["int"] [0, 1, 2] tk (hr.mono (by decide)) (o_ne hr) ht_eqN) (e_fl [(2, 3)] (e_var 1) ht_fl_step) (e_ix (e_fl [(2, 1)] (e_var 1) ht_fl_spots) (e_un o_neg e_int))))))) (s_one (s_ret e_bl)) s_nil) (s_cons (s_if (t_bo (w_or (t_cmp (o_neW [(0, B_Ratio___eq__), (1, B_Step___eq__)] ["int"] [0, 1, 2] tk (hr.mono (by decide)) (o_ne hr) ht_eqN) (e_fl [(2, 2)] (e_var 1) ht_fl_age) (e_new tk (hr.mono (by decide)) nw5 bd5_3_b bd5_3_v (fun _ => .nil) (a_cons (e_ix (e_var 3) e_int) (a_cons (e_ix (e_var 3) e_int) a_nil)))) (w_or1 (t_cmp (o_neW [(0, B_Ratio___eq__), (1, B_Step___eq__)] ["int"] [0, 1, 2] tk (hr.mono (by decide)) (o_ne hr) ht_eqN) (e_callK0 tk (hr.mono (by decide)) g44 (bindK0 (ps := [("tour" : PySem.Str)]) F44 0 [("tour" : PySem.Str)] [0] fun _ _ _ _ _ _ us ws h1 h2 => match us, h1, ws, h2 with | [], _, [_], _ => rfl) .nil (fun _ => .nil) (k_cons (e_var 1) k_nil)) (e_new tk (hr.mono (by decide)) nw5 bd5_3_b bd5_3_v (fun _ => .nil) (a_cons (e_bin (o_bin [(0, B_Ratio___mul__)] ["int"] [0, 1] tk (hr.mono (by decide)) o_mul ht_mul) (e_ix (e_var 4) e_int) (e_ix (e_var 5) e_int)) (a_cons (e_bin (o_bin [(0, B_Ratio___mul__)] ["int"] [0, 1] tk (hr.mono (by decide)) o_mul ht_mul) (e_ix (e_var 4) e_int) (e_ix (e_var 5) e_int)) a_nil))))))) (s_one (s_ret e_bl)) s_nil) (s_cons (s_if (t_cmp (o_neW [(0, B_Ratio___eq__), (1, B_Step___eq__)] ["int"] [0, 1, 2] tk (hr.mono (by decide)) (o_ne hr) ht_eqN) (e_lcF (vs := [9]) [(("_law_at" : PySem.Str), 9)] rfl (i_rng1 (a_cons (e_len (a_cons (e_var 0) a_nil)) a_nil)) (blkOk_by (by kernel_rfl)) (fun _ _ _ _ _ => (g_to (O2 := []) (g_name 9))) (fun _ _ _ _ _ => (pts_1 (t_cmp (o_neW [(0, B_Ratio___eq__), (1, B_Step___eq__)] ["int"] [0, 1, 2] takes_blk (hr.mono (by decide)) (o_ne hr) ht_eqN) (e_fl [(1, 4)] (e_bin (o_bin [(1, B_Step___sub__), (0, B_Ratio___sub__)] ["int"] [0, 1] takes_blk (hr.mono (by decide)) o_sub ht_sub) (e_ix (e_fl [(2, 1)] (e_var 1) ht_fl_spots) (e_bin o_add (e_var 9) e_int)) (e_ix (e_fl [(2, 1)] (e_var 1) ht_fl_spots) (e_var 9))) ht_fl_kind) e_str))) (fun _ _ _ _ _ => (e_var 9))).fz (e_lst a_nil)) (s_one (s_ret e_bl)) s_nil) (s_cons (s_to (O2 := []) (s_set 6 (e_cmp (o_eq hr) (e_lcF (vs := [10]) [(("_law_part" : PySem.Str), 10)] rfl (i_seq (e_var 0)) (blkOk_by (by kernel_rfl)) (fun _ _ _ _ _ => (g_to (O2 := []) (g_name 10))) (fun _ _ _ _ _ => (pts_1 (t_cmp (o_neW [(0, B_Ratio___eq__), (1, B_Step___eq__)] ["int"] [0, 1, 2] takes_blk (hr.mono (by decide)) (o_ne hr) ht_eqN) (e_bin (o_bin [(0, B_Ratio___mul__)] ["int"] [0, 1] takes_blk (hr.mono (by decide)) o_mul ht_mul) (e_ix (e_ix (e_var 10) e_int) e_int) (e_ix (e_ix (e_ix (e_var 0) e_int) e_int) e_int)) (e_bin (o_bin [(0, B_Ratio___mul__)] ["int"] [0, 1] takes_blk (hr.mono (by decide)) o_mul ht_mul) (e_ix (e_ix (e_ix (e_var 0) e_int) e_int) e_int) (e_ix (e_ix (e_var 10) e_int) e_int))))) (fun _ _ _ _ _ => (e_var 10))).fz (e_lst a_nil)))) (s_cons (s_to (O2 := []) (s_set 7 (e_bin (o_bin [(1, B_Step___sub__), (0, B_Ratio___sub__)] ["int"] [0, 1] tk (hr.mono (by decide)) o_sub ht_sub) (e_call tk (hr.mono (by decide)) g44 (F44.bindsN (ps := [("tour" : PySem.Str)]) fun _ _ _ _ _ _ us hl => match us, hl with | [_], _ => rfl) .nil (fun _ => .nil) (a_cons (e_var 1) a_nil)) (e_bin (o_bin [(0, B_Ratio___mul__)] ["int"] [0, 1] tk (hr.mono (by decide)) o_mul ht_mul) (e_fl [(2, 2)] (e_var 1) ht_fl_age) (e_fl [(2, 2)] (e_var 1) ht_fl_age))))) (s_one (s_ret (e_cmp (o_eq hr) (e_pr [(0, B_Ratio_sign)] (hr.mono (by decide)) (e_var 7) pr_sign) (e_if (t_val (e_var 6)) e_int e_int)))))))))))⟩
theorem ok_46 {P : Program} {w : World} {K : PySem.W.Frag} {mg : Str → Option Value} {base : Heap} (h : Hy K mg base) : ∃ fd, FunD K d46.name d46.qual d46.params d46.body d46.scope (d46.dvs K) [] (d46.wh.ad K) fd ∧ FnB P w (gm K) mg base 14 (d46.wh.ad K) fd [("self" : PySem.Str), ("other" : PySem.Str)] 2 [] B_Tour_joined := by
  obtain ⟨fd30, F30, ok30⟩ := ok_30 (P := P) (w := w) h
  obtain ⟨fd24, F24, ok24⟩ := ok_24 (P := P) (w := w) h
  have g30 : GlOk (gm K) P w mg base 2 ("need_tour" : PySem.Str) 2 [] B_need_tour _ fd30 [("value" : PySem.Str), ("part" : PySem.Str)] := ⟨He.glo_ok h.X0 h.G0 (h.c.fact 84), F30.kp, ok30, ar_of⟩
  have nw24 : NwOk (gm K) P w mg base 12 ("Tour" : PySem.Str) 2 2 B_Tour___init__ _ fd24 [("self" : PySem.Str), ("parts" : PySem.Str)] := ⟨He.glo_ok h.X0 h.G0 (h.c.fact 68), He.mkr_ok (h.c.fact 69), rfl, ok24, ar_of, rfl⟩
  have ht_fl_parts : ∀ c i, List.lookup c [(2, 0)] = some i → ClsOk (gm K) c ∧ ((gm K).lay c)[i]? = some ("parts" : PySem.Str) := (lk_cons ⟨co2 h, rfl⟩ lk_nil)
  have hN : N46.Nodup := sc46.nd
  obtain ⟨fd, F⟩ := h.c.def_ 46 (d := d46) rfl
  exact ⟨fd, F, def_ok (G := gm K) (N := N46) (k := 13) (O' := []) F sc46 fun cdv A outer s H E hr tk => (s_cons (s_expr (e_call tk (hr.mono (by decide)) g30 (F30.bindsN (ps := [("value" : PySem.Str), ("part" : PySem.Str)]) fun _ _ _ _ _ _ us hl => match us, hl with | [_, _], _ => rfl) .nil (fun _ => .nil) (a_cons (e_var 1) (a_cons e_str a_nil)))) (s_one (s_ret (e_new tk (hr.mono (by decide)) nw24 (F24.bindsN (ps := [("self" : PySem.Str), ("parts" : PySem.Str)]) fun _ _ _ _ _ _ us hl => match us, hl with | [_, _], _ => rfl) .nil (fun _ => .nil) (a_cons (e_bin o_add (e_fl [(2, 0)] (e_var 0) ht_fl_parts) (e_fl [(2, 0)] (e_var 1) ht_fl_parts)) a_nil)))))⟩
theorem ok_47 {P : Program} {w : World} {K : PySem.W.Frag} {mg : Str → Option Value} {base : Heap} (h : Hy K mg base) : ∃ fd, FunD K d47.name d47.qual d47.params d47.body d47.scope (d47.dvs K) [] (d47.wh.ad K) fd ∧ FnB P w (gm K) mg base 6 (d47.wh.ad K) fd [("self" : PySem.Str), ("other" : PySem.Str)] 2 [] B_Tour___eq__ := by
  obtain ⟨fd28, F28, ok28⟩ := ok_28 (P := P) (w := w) h
  have m_isinstance : mg ("isinstance" : PySem.Str) = none := He.free_ok h.X0 h.G0 (h.c.fact 6)
  have ht_fl_parts : ∀ c i, List.lookup c [(2, 0)] = some i → ClsOk (gm K) c ∧ ((gm K).lay c)[i]? = some ("parts" : PySem.Str) := (lk_cons ⟨co2 h, rfl⟩ lk_nil)
  have ht_eq : ∀ c B, List.lookup c [(0, B_Ratio___eq__)] = some B → (∃ f fd ps, OwnOk (gm K) P w mg base 3 ("__eq__" : PySem.Str) c B f fd ps 2) ∧ CmpOk (gm K) ["int"] [0, 1, 2] c := (lk_cons ⟨⟨_, fd28, [("self" : PySem.Str), ("other" : PySem.Str)], (He.meth_ok (h.c.fact 79)).at_, (He.meth_ok (h.c.fact 79)).fn, fn_up ok28 (by decide), F28.bindsN (ps := [("self" : PySem.Str), ("other" : PySem.Str)]) fun _ _ _ _ _ _ us hl => match us, hl with | [_, _], _ => rfl, ar_of⟩, ⟨(mem_cons ⟨by decide, (h.c.fact 75)⟩ mem_nil), (mem_cons (h.c.fact 78) (mem_cons (h.c.fact 77) (mem_cons (h.c.fact 76) mem_nil)))⟩⟩ lk_nil)
  have hN : N47.Nodup := sc47.nd
  obtain ⟨fd, F⟩ := h.c.def_ 47 (d := d47) rfl
  exact ⟨fd, F, def_ok (G := gm K) (N := N47) (k := 5) (O' := []) F sc47 fun cdv A outer s H E hr tk => (s_one (s_ret (e_and (e_isi (e_var 1) (cv_own (He.glo_ok h.X0 h.G0 (h.c.fact 68))) (kn_own (k := 2) [(0, false), (1, false), (2, true)] (lk_cons ⟨ty0 h, eqF_ok (h.c.fact 82)⟩ (lk_cons ⟨ty1 h, eqF_ok (h.c.fact 81)⟩ (lk_cons ⟨ty2 h, eqF_ok (h.c.fact 80)⟩ lk_nil))) fun m hm => eqF_ok (List.all_eq_true.mp (h.c.fact 83) m hm))) (e_bo1 (e_cmp (o_eqY 1 [(0, B_Ratio___eq__)] ["int"] [0, 1, 2] tk (hr.mono (by decide)) ht_eq) (e_fl [(2, 0)] (e_var 0) ht_fl_parts) (e_fl [(2, 0)] (e_var 1) ht_fl_parts))))))⟩
theorem ok_48 {P : Program} {w : World} {K : PySem.W.Frag} {mg : Str → Option Value} {base : Heap} (h : Hy K mg base) : ∃ fd, FunD K d48.name d48.qual d48.params d48.body d48.scope (d48.dvs K) [] (d48.wh.ad K) fd ∧ FnB P w (gm K) mg base 15 (d48.wh.ad K) fd [("_law_pen_here" : PySem.Str), ("_law_parts_here" : PySem.Str), ("_law_tour_here" : PySem.Str)] 3 [0] B__law_kin_right := by
  obtain ⟨fd25, F25, ok25⟩ := ok_25 (P := P) (w := w) h
  obtain ⟨fd3, F3, ok3⟩ := ok_3 (P := P) (w := w) h
  obtain ⟨fd28, F28, ok28⟩ := ok_28 (P := P) (w := w) h
  obtain ⟨fd29, F29, ok29⟩ := ok_29 (P := P) (w := w) h
  obtain ⟨fd47, F47, ok47⟩ := ok_47 (P := P) (w := w) h
  obtain ⟨fd46, F46, ok46⟩ := ok_46 (P := P) (w := w) h
  obtain ⟨fd7, F7, ok7⟩ := ok_7 (P := P) (w := w) h
  obtain ⟨fd41, F41, ok41⟩ := ok_41 (P := P) (w := w) h
  obtain ⟨fd1, F1, ok1⟩ := ok_1 (P := P) (w := w) h
  obtain ⟨fd9, F9, ok9⟩ := ok_9 (P := P) (w := w) h
  obtain ⟨fd44, F44, ok44⟩ := ok_44 (P := P) (w := w) h
  obtain ⟨fd14, F14, ok14⟩ := ok_14 (P := P) (w := w) h
  obtain ⟨fd5, F5, ok5⟩ := ok_5 (P := P) (w := w) h
  have g25 : GlOk (gm K) P w mg base 14 ("_law_tour" : PySem.Str) 1 [] B__law_tour _ fd25 [("_law_parts_here" : PySem.Str)] := ⟨He.glo_ok h.X0 h.G0 (h.c.fact 108), F25.kp, ok25, ar_of⟩
  have g3 : GlOk (gm K) P w mg base 4 ("_law_parts" : PySem.Str) 2 [0] B__law_parts _ fd3 [("_law_pen_here" : PySem.Str), ("_law_most" : PySem.Str)] := ⟨He.glo_ok h.X0 h.G0 (h.c.fact 109), F3.kp, ok3, ar_of⟩
  have ht_fl_age : ∀ c i, List.lookup c [(2, 2)] = some i → ClsOk (gm K) c ∧ ((gm K).lay c)[i]? = some ("age" : PySem.Str) := (lk_cons ⟨co2 h, rfl⟩ lk_nil)
  have ht_fl_step : ∀ c i, List.lookup c [(2, 3)] = some i → ClsOk (gm K) c ∧ ((gm K).lay c)[i]? = some ("step" : PySem.Str) := (lk_cons ⟨co2 h, rfl⟩ lk_nil)
  have ht_eq : ∀ c B, List.lookup c [(0, B_Ratio___eq__), (1, B_Step___eq__), (2, B_Tour___eq__)] = some B → (∃ f fd ps, OwnOk (gm K) P w mg base 6 ("__eq__" : PySem.Str) c B f fd ps 2) ∧ CmpOk (gm K) ["int"] [0, 1, 2] c := (lk_cons ⟨⟨_, fd28, [("self" : PySem.Str), ("other" : PySem.Str)], (He.meth_ok (h.c.fact 79)).at_, (He.meth_ok (h.c.fact 79)).fn, fn_up ok28 (by decide), F28.bindsN (ps := [("self" : PySem.Str), ("other" : PySem.Str)]) fun _ _ _ _ _ _ us hl => match us, hl with | [_, _], _ => rfl, ar_of⟩, ⟨(mem_cons ⟨by decide, (h.c.fact 75)⟩ mem_nil), (mem_cons (h.c.fact 78) (mem_cons (h.c.fact 77) (mem_cons (h.c.fact 76) mem_nil)))⟩⟩ (lk_cons ⟨⟨_, fd29, [("self" : PySem.Str), ("other" : PySem.Str)], (He.meth_ok (h.c.fact 93)).at_, (He.meth_ok (h.c.fact 93)).fn, fn_up ok29 (by decide), F29.bindsN (ps := [("self" : PySem.Str), ("other" : PySem.Str)]) fun _ _ _ _ _ _ us hl => match us, hl with | [_, _], _ => rfl, ar_of⟩, ⟨(mem_cons ⟨by decide, (h.c.fact 89)⟩ mem_nil), (mem_cons (h.c.fact 92) (mem_cons (h.c.fact 91) (mem_cons (h.c.fact 90) mem_nil)))⟩⟩ (lk_cons ⟨⟨_, fd47, [("self" : PySem.Str), ("other" : PySem.Str)], (He.meth_ok (h.c.fact 114)).at_, (He.meth_ok (h.c.fact 114)).fn, fn_up ok47 (by decide), F47.bindsN (ps := [("self" : PySem.Str), ("other" : PySem.Str)]) fun _ _ _ _ _ _ us hl => match us, hl with | [_, _], _ => rfl, ar_of⟩, ⟨(mem_cons ⟨by decide, (h.c.fact 110)⟩ mem_nil), (mem_cons (h.c.fact 113) (mem_cons (h.c.fact 112) (mem_cons (h.c.fact 111) mem_nil)))⟩⟩ lk_nil)))
  have ht_fl_parts : ∀ c i, List.lookup c [(2, 0)] = some i → ClsOk (gm K) c ∧ ((gm K).lay c)[i]? = some ("parts" : PySem.Str) := (lk_cons ⟨co2 h, rfl⟩ lk_nil)
  have ht_eqN : ∀ c B, List.lookup c [(0, B_Ratio___eq__), (1, B_Step___eq__), (2, B_Tour___eq__)] = some B → (∃ f fd ps, OwnOk (gm K) P w mg base 6 "__eq__" c B f fd ps 2) ∧ CmpOk (gm K) ["int"] [0, 1, 2] c ∧ NeOk (gm K) c := (lk_cons ⟨⟨_, fd28, [("self" : PySem.Str), ("other" : PySem.Str)], (He.meth_ok (h.c.fact 79)).at_, (He.meth_ok (h.c.fact 79)).fn, fn_up ok28 (by decide), F28.bindsN (ps := [("self" : PySem.Str), ("other" : PySem.Str)]) fun _ _ _ _ _ _ us hl => match us, hl with | [_, _], _ => rfl, ar_of⟩, ⟨(mem_cons ⟨by decide, (h.c.fact 75)⟩ mem_nil), (mem_cons (h.c.fact 78) (mem_cons (h.c.fact 77) (mem_cons (h.c.fact 76) mem_nil)))⟩, ⟨eqF_ok (h.c.fact 101), (ty0 h).hm⟩⟩ (lk_cons ⟨⟨_, fd29, [("self" : PySem.Str), ("other" : PySem.Str)], (He.meth_ok (h.c.fact 93)).at_, (He.meth_ok (h.c.fact 93)).fn, fn_up ok29 (by decide), F29.bindsN (ps := [("self" : PySem.Str), ("other" : PySem.Str)]) fun _ _ _ _ _ _ us hl => match us, hl with | [_, _], _ => rfl, ar_of⟩, ⟨(mem_cons ⟨by decide, (h.c.fact 89)⟩ mem_nil), (mem_cons (h.c.fact 92) (mem_cons (h.c.fact 91) (mem_cons (h.c.fact 90) mem_nil)))⟩, ⟨eqF_ok (h.c.fact 94), (ty1 h).hm⟩⟩ (lk_cons ⟨⟨_, fd47, [("self" : PySem.Str), ("other" : PySem.Str)], (He.meth_ok (h.c.fact 114)).at_, (He.meth_ok (h.c.fact 114)).fn, fn_up ok47 (by decide), F47.bindsN (ps := [("self" : PySem.Str), ("other" : PySem.Str)]) fun _ _ _ _ _ _ us hl => match us, hl with | [_, _], _ => rfl, ar_of⟩, ⟨(mem_cons ⟨by decide, (h.c.fact 110)⟩ mem_nil), (mem_cons (h.c.fact 113) (mem_cons (h.c.fact 112) (mem_cons (h.c.fact 111) mem_nil)))⟩, ⟨eqF_ok (h.c.fact 115), (ty2 h).hm⟩⟩ lk_nil)))
  have mk_joined : ∀ c B, List.lookup c [(2, B_Tour_joined)] = some B → ∃ a f fd ps ds ds2 dvs dvs2, MtOk (gm K) P w mg base 14 c ("joined" : PySem.Str) a B f fd ps ds2 dvs2 ∧ BindK (gm K).K fd ps 1 [("other" : PySem.Str)] [0, 1] ds ∧ Vals dvs ds ∧ ∀ F, RepL (gm K) F [] dvs := (lk_cons ⟨2, _, fd46, [("self" : PySem.Str), ("other" : PySem.Str)], [], [], [], [], ⟨(clo2 h).1, He.meth_ok (h.c.fact 116), fn_up ok46 (by decide), ar_of, (F46.bindsN (ps := [("self" : PySem.Str), ("other" : PySem.Str)]) fun _ _ _ _ _ _ us hl => match us, hl with | [_, _], _ => rfl), .nil⟩, (bindK0 (ps := [("self" : PySem.Str), ("other" : PySem.Str)]) F46 1 [("other" : PySem.Str)] [0, 1] fun _ _ _ _ _ _ us ws h1 h2 => match us, h1, ws, h2 with | [_], _, [_], _ => rfl), .nil, fun _ => .nil⟩ lk_nil)
  have ht_add : ∀ c B, List.lookup c [(0, B_Ratio___add__), (1, B_Step___add__)] = some B → (∃ f fd ps, OwnOk (gm K) P w mg base 11 ("__add__" : PySem.Str) c B f fd ps 2) ∧ BinOk (gm K) ("__add__" : PySem.Str) ("__radd__" : PySem.Str) ["int"] [0, 1] c := (lk_cons ⟨⟨_, fd7, [("self" : PySem.Str), ("other" : PySem.Str)], (He.meth_ok (h.c.fact 28)).at_, (He.meth_ok (h.c.fact 28)).fn, fn_up ok7 (by decide), F7.bindsN (ps := [("self" : PySem.Str), ("other" : PySem.Str)]) fun _ _ _ _ _ _ us hl => match us, hl with | [_, _], _ => rfl, ar_of⟩, ⟨(h.c.fact 29), rd_ok (h.c.fact 30), (mem_cons ⟨by decide, biT_ok (h.c.fact 23)⟩ mem_nil), (mem_cons (.inl rfl) (mem_cons (.inr ⟨(sub_ok (h.c.fact 24)).2, (h.c.fact 25), ⟨_, (He.meth_ok (h.c.fact 26)).at_⟩, rd_ok (h.c.fact 27), (sub_ok (h.c.fact 24)).1⟩) mem_nil))⟩⟩ (lk_cons ⟨⟨_, fd41, [("self" : PySem.Str), ("other" : PySem.Str)], (He.meth_ok (h.c.fact 26)).at_, (He.meth_ok (h.c.fact 26)).fn, fn_up ok41 (by decide), F41.bindsN (ps := [("self" : PySem.Str), ("other" : PySem.Str)]) fun _ _ _ _ _ _ us hl => match us, hl with | [_, _], _ => rfl, ar_of⟩, ⟨(h.c.fact 25), rd_ok (h.c.fact 27), (mem_cons ⟨by decide, biT_ok (h.c.fact 104)⟩ mem_nil), (mem_cons (.inr ⟨(sub_ok (h.c.fact 105)).2, (h.c.fact 29), ⟨_, (He.meth_ok (h.c.fact 28)).at_⟩, rd_ok (h.c.fact 30), (sub_ok (h.c.fact 105)).1⟩) (mem_cons (.inl rfl) mem_nil))⟩⟩ lk_nil))
  have g1 : GlOk (gm K) P w mg base 2 ("_law_draw" : PySem.Str) 2 [0] B__law_draw _ fd1 [("_law_pen_here" : PySem.Str), ("_law_many" : PySem.Str)] := ⟨He.glo_ok h.X0 h.G0 (h.c.fact 3), F1.kp, ok1, ar_of⟩
  have ht_mul : ∀ c B, List.lookup c [(0, B_Ratio___mul__)] = some B → (∃ f fd ps, OwnOk (gm K) P w mg base 6 ("__mul__" : PySem.Str) c B f fd ps 2) ∧ BinOk (gm K) ("__mul__" : PySem.Str) ("__rmul__" : PySem.Str) ["int"] [0, 1] c := (lk_cons ⟨⟨_, fd9, [("self" : PySem.Str), ("other" : PySem.Str)], (He.meth_ok (h.c.fact 35)).at_, (He.meth_ok (h.c.fact 35)).fn, fn_up ok9 (by decide), F9.bindsN (ps := [("self" : PySem.Str), ("other" : PySem.Str)]) fun _ _ _ _ _ _ us hl => match us, hl with | [_, _], _ => rfl, ar_of⟩, ⟨(h.c.fact 29), rd_ok (h.c.fact 36), (mem_cons ⟨by decide, biT_ok (h.c.fact 32)⟩ mem_nil), (mem_cons (.inl rfl) (mem_cons (.inr ⟨(sub_ok (h.c.fact 24)).2, (h.c.fact 25), ⟨_, (He.meth_ok (h.c.fact 33)).at_⟩, rd_ok (h.c.fact 34), (sub_ok (h.c.fact 24)).1⟩) mem_nil))⟩⟩ lk_nil)
  have g44 : GlOk (gm K) P w mg base 3 ("straight_square" : PySem.Str) 1 [] B_straight_square _ fd44 [("tour" : PySem.Str)] := ⟨He.glo_ok h.X0 h.G0 (h.c.fact 106), F44.kp, ok44, ar_of⟩
  have ht_fl_time : ∀ c i, List.lookup c [(1, 0)] = some i → ClsOk (gm K) c ∧ ((gm K).lay c)[i]? = some ("time" : PySem.Str) := (lk_cons ⟨co1 h, rfl⟩ lk_nil)
  have ht_fl_place : ∀ c i, List.lookup c [(1, 1)] = some i → ClsOk (gm K) c ∧ ((gm K).lay c)[i]? = some ("place" : PySem.Str) := (lk_cons ⟨co1 h, rfl⟩ lk_nil)
  have ht_sub : ∀ c B, List.lookup c [(0, B_Ratio___sub__)] = some B → (∃ f fd ps, OwnOk (gm K) P w mg base 7 ("__sub__" : PySem.Str) c B f fd ps 2) ∧ BinOk (gm K) ("__sub__" : PySem.Str) ("__rsub__" : PySem.Str) ["int"] [0, 1] c := (lk_cons ⟨⟨_, fd14, [("self" : PySem.Str), ("other" : PySem.Str)], (He.meth_ok (h.c.fact 55)).at_, (He.meth_ok (h.c.fact 55)).fn, fn_up ok14 (by decide), F14.bindsN (ps := [("self" : PySem.Str), ("other" : PySem.Str)]) fun _ _ _ _ _ _ us hl => match us, hl with | [_, _], _ => rfl, ar_of⟩, ⟨(h.c.fact 29), rd_ok (h.c.fact 56), (mem_cons ⟨by decide, biT_ok (h.c.fact 52)⟩ mem_nil), (mem_cons (.inl rfl) (mem_cons (.inr ⟨(sub_ok (h.c.fact 24)).2, (h.c.fact 25), ⟨_, (He.meth_ok (h.c.fact 53)).at_⟩, rd_ok (h.c.fact 54), (sub_ok (h.c.fact 24)).1⟩) mem_nil))⟩⟩ lk_nil)
  have nw5 : NwOk (gm K) P w mg base 3 ("Ratio" : PySem.Str) 0 3 B_Ratio___init__ _ fd5 [("self" : PySem.Str), ("top" : PySem.Str), ("bottom" : PySem.Str)] := ⟨He.glo_ok h.X0 h.G0 (h.c.fact 19), He.mkr_ok (h.c.fact 21), rfl, ok5, ar_of, rfl⟩
  obtain ⟨bd5_3, bd5_3_v, bd5_3_b⟩ := F5.binds1 (ps := [("self" : PySem.Str), ("top" : PySem.Str), ("bottom" : PySem.Str)]) 3 1 (List.cons_ne_nil _ _) rfl fun T kV doc pm an cdv ct us its h1 h2 => ⟨_, rfl, match us, h1, its, h2 with | [_, _, _], _, [_], _ => rfl⟩
  have hN : N48.Nodup := sc48.nd
  obtain ⟨fd, F⟩ := h.c.def_ 48 (d := d48) rfl
  exact ⟨fd, F, def_ok (G := gm K) (N := N48) (k := 14) (O' := [0]) F sc48 fun cdv A outer s H E hr tk => (s_cons (s_to (O2 := [0]) (s_par2 3 4 (a_cons (e_call tk (hr.mono (by decide)) g25 (F25.bindsN (ps := [("_law_parts_here" : PySem.Str)]) fun _ _ _ _ _ _ us hl => match us, hl with | [_], _ => rfl) .nil (fun _ => .nil) (a_cons (e_rev (e_var 1) (e_un o_neg e_int)) a_nil)) (a_cons (e_callO 0 tk (hr.mono (by decide)) g3 (F3.bindsN (ps := [("_law_pen_here" : PySem.Str), ("_law_most" : PySem.Str)]) fun _ _ _ _ _ _ us hl => match us, hl with | [_, _], _ => rfl) (a_cons e_int a_nil)) a_nil)))) (s_cons (s_if (t_bo (w_or (t_cmp (o_neY 0 [(0, B_Ratio___eq__), (1, B_Step___eq__), (2, B_Tour___eq__)] ["int"] [0, 1, 2] tk (hr.mono (by decide)) ht_eq) (e_tup (a_cons (e_fl [(2, 2)] (e_var 3) ht_fl_age) (a_cons (e_fl [(2, 3)] (e_var 3) ht_fl_step) a_nil))) (e_tup (a_cons (e_fl [(2, 2)] (e_var 2) ht_fl_age) (a_cons (e_fl [(2, 3)] (e_var 2) ht_fl_step) a_nil)))) (w_or1 (t_cmp (o_neW [(0, B_Ratio___eq__), (1, B_Step___eq__), (2, B_Tour___eq__)] ["int"] [0, 1, 2] tk (hr.mono (by decide)) (o_ne hr) ht_eqN) (e_cmp (o_eqT [(0, B_Ratio___eq__), (1, B_Step___eq__), (2, B_Tour___eq__)] ["int"] [0, 1, 2] tk (hr.mono (by decide)) ht_eq) (e_var 3) (e_var 2)) (e_cmp (o_eqY 1 [(0, B_Ratio___eq__), (1, B_Step___eq__), (2, B_Tour___eq__)] ["int"] [0, 1, 2] tk (hr.mono (by decide)) ht_eq) (e_fl [(2, 0)] (e_var 3) ht_fl_parts) (e_fl [(2, 0)] (e_var 2) ht_fl_parts)))))) (s_one (s_ret e_bl)) s_nil) (s_cons (s_to (O2 := [0]) (s_set 5 (e_call tk (hr.mono (by decide)) g25 (F25.bindsN (ps := [("_law_parts_here" : PySem.Str)]) fun _ _ _ _ _ _ us hl => match us, hl with | [_], _ => rfl) .nil (fun _ => .nil) (a_cons (e_var 4) a_nil)))) (s_cons (s_to (O2 := [0]) (s_set 6 (e_methK0 (od := [0]) [(2, B_Tour_joined)] tk (hr.mono (by decide)) (show ("joined" : PySem.Str) ∉ flds by decide +kernel) (e_var 2) (k_cons (e_var 5) k_nil) mk_joined))) (s_cons (s_if (t_bo (w_or (t_cmp (o_neW [(0, B_Ratio___eq__), (1, B_Step___eq__), (2, B_Tour___eq__)] ["int"] [0, 1, 2] tk (hr.mono (by decide)) (o_ne hr) ht_eqN) (e_var 6) (e_call tk (hr.mono (by decide)) g25 (F25.bindsN (ps := [("_law_parts_here" : PySem.Str)]) fun _ _ _ _ _ _ us hl => match us, hl with | [_], _ => rfl) .nil (fun _ => .nil) (a_cons (e_bin (o_bin [(0, B_Ratio___add__), (1, B_Step___add__)] ["int"] [0, 1] tk (hr.mono (by decide)) o_add ht_add) (e_var 1) (e_var 4)) a_nil))) (w_or (t_cmp (o_neW [(0, B_Ratio___eq__), (1, B_Step___eq__), (2, B_Tour___eq__)] ["int"] [0, 1, 2] tk (hr.mono (by decide)) (o_ne hr) ht_eqN) (e_fl [(2, 2)] (e_var 6) ht_fl_age) (e_bin (o_bin [(0, B_Ratio___add__), (1, B_Step___add__)] ["int"] [0, 1] tk (hr.mono (by decide)) o_add ht_add) (e_fl [(2, 2)] (e_var 2) ht_fl_age) (e_fl [(2, 2)] (e_var 5) ht_fl_age))) (w_or1 (t_cmp (o_neW [(0, B_Ratio___eq__), (1, B_Step___eq__), (2, B_Tour___eq__)] ["int"] [0, 1, 2] tk (hr.mono (by decide)) (o_ne hr) ht_eqN) (e_fl [(2, 3)] (e_var 6) ht_fl_step) (e_bin (o_bin [(0, B_Ratio___add__), (1, B_Step___add__)] ["int"] [0, 1] tk (hr.mono (by decide)) o_add ht_add) (e_fl [(2, 3)] (e_var 2) ht_fl_step) (e_fl [(2, 3)] (e_var 5) ht_fl_step))))))) (s_one (s_ret e_bl)) s_nil) (s_cons (s_asg (vs := [0, 1, 2, 3, 4, 5, 6, 7, 8, 9, 10, 11]) (e_tup (a_cons (e_bin (o_bin [(0, B_Ratio___add__), (1, B_Step___add__)] ["int"] [0, 1] tk (hr.mono (by decide)) o_add ht_add) e_int (e_callO 0 tk (hr.mono (by decide)) g1 (F1.bindsN (ps := [("_law_pen_here" : PySem.Str), ("_law_many" : PySem.Str)]) fun _ _ _ _ _ _ us hl => match us, hl with | [_, _], _ => rfl) (a_cons e_int a_nil))) (a_cons (e_bin (o_bin [(0, B_Ratio___add__), (1, B_Step___add__)] ["int"] [0, 1] tk (hr.mono (by decide)) o_add ht_add) e_int (e_callO 0 tk (hr.mono (by decide)) g1 (F1.bindsN (ps := [("_law_pen_here" : PySem.Str), ("_law_many" : PySem.Str)]) fun _ _ _ _ _ _ us hl => match us, hl with | [_, _], _ => rfl) (a_cons e_int a_nil))) a_nil))) (g_tup (gs_cons (g_to (O2 := [0]) (g_name 7)) (gs_cons (g_to (O2 := [0]) (g_name 8)) gs_nil)))) (s_cons (s_to (O2 := [0]) (s_set 9 (e_call tk (hr.mono (by decide)) g25 (F25.bindsN (ps := [("_law_parts_here" : PySem.Str)]) fun _ _ _ _ _ _ us hl => match us, hl with | [_], _ => rfl) .nil (fun _ => .nil) (a_cons (e_lcF (vs := [10, 11]) [(("_law_ratio" : PySem.Str), 10), (("_law_beats" : PySem.Str), 11)] rfl (i_seq (e_var 1)) (blkOk_by (by kernel_rfl)) (fun _ _ _ _ _ => (g_tup (gs_cons (g_to (O2 := [0]) (g_name 10)) (gs_cons (g_to (O2 := [0]) (g_name 11)) gs_nil)))) (fun _ _ _ _ _ => pts_no) (fun _ _ _ _ _ => (e_tup (a_cons (e_tup (a_cons (e_bin (o_bin [(0, B_Ratio___mul__)] ["int"] [0, 1] takes_blk (hr.mono (by decide)) o_mul ht_mul) (e_ix (e_var 10) e_int) (e_var 8)) (a_cons (e_bin (o_bin [(0, B_Ratio___mul__)] ["int"] [0, 1] takes_blk (hr.mono (by decide)) o_mul ht_mul) (e_ix (e_var 10) e_int) (e_var 7)) a_nil))) (a_cons (e_var 11) a_nil))))).fz a_nil)))) (s_cons (s_if (t_bo (w_or (t_cmp (o_neW [(0, B_Ratio___eq__), (1, B_Step___eq__), (2, B_Tour___eq__)] ["int"] [0, 1, 2] tk (hr.mono (by decide)) (o_ne hr) ht_eqN) (e_fl [(2, 2)] (e_var 9) ht_fl_age) (e_fl [(2, 2)] (e_var 2) ht_fl_age)) (w_or1 (t_cmp (o_neW [(0, B_Ratio___eq__), (1, B_Step___eq__), (2, B_Tour___eq__)] ["int"] [0, 1, 2] tk (hr.mono (by decide)) (o_ne hr) ht_eqN) (e_call tk (hr.mono (by decide)) g44 (F44.bindsN (ps := [("tour" : PySem.Str)]) fun _ _ _ _ _ _ us hl => match us, hl with | [_], _ => rfl) .nil (fun _ => .nil) (a_cons (e_var 9) a_nil)) (e_call tk (hr.mono (by decide)) g44 (F44.bindsN (ps := [("tour" : PySem.Str)]) fun _ _ _ _ _ _ us hl => match us, hl with | [_], _ => rfl) .nil (fun _ => .nil) (a_cons (e_var 2) a_nil)))))) (s_one (s_ret e_bl)) s_nil) (s_one (s_ret (e_cmp (o_eqT [(0, B_Ratio___eq__), (1, B_Step___eq__), (2, B_Tour___eq__)] ["int"] [0, 1, 2] tk (hr.mono (by decide)) ht_eq) (e_bin (o_bin [(0, B_Ratio___sub__)] ["int"] [0, 1] tk (hr.mono (by decide)) o_sub ht_sub) (e_fl [(1, 0)] (e_fl [(2, 3)] (e_var 9) ht_fl_step) ht_fl_time) (e_ix (e_fl [(1, 1)] (e_fl [(2, 3)] (e_var 9) ht_fl_step) ht_fl_place) e_int)) (e_bin (o_bin [(0, B_Ratio___mul__)] ["int"] [0, 1] tk (hr.mono (by decide)) o_mul ht_mul) (e_bin (o_bin [(0, B_Ratio___sub__)] ["int"] [0, 1] tk (hr.mono (by decide)) o_sub ht_sub) (e_fl [(1, 0)] (e_fl [(2, 3)] (e_var 2) ht_fl_step) ht_fl_time) (e_ix (e_fl [(1, 1)] (e_fl [(2, 3)] (e_var 2) ht_fl_step) ht_fl_place) e_int)) (e_new tk (hr.mono (by decide)) nw5 bd5_3_b bd5_3_v (fun _ => .nil) (a_cons (e_var 7) (a_cons (e_var 8) a_nil)))))))))))))))⟩
theorem ok_49 {P : Program} {w : World} {K : PySem.W.Frag} {mg : Str → Option Value} {base : Heap} (h : Hy K mg base) : ∃ fd, FunD K d49.name d49.qual d49.params d49.body d49.scope (d49.dvs K) [] (d49.wh.ad K) fd ∧ FnB P w (gm K) mg base 16 (d49.wh.ad K) fd [("_law_script" : PySem.Str)] 1 [] B_law := by
  obtain ⟨fd0, F0, ok0⟩ := ok_0 (P := P) (w := w) h
  obtain ⟨fd3, F3, ok3⟩ := ok_3 (P := P) (w := w) h
  obtain ⟨fd25, F25, ok25⟩ := ok_25 (P := P) (w := w) h
  obtain ⟨fd45, F45, ok45⟩ := ok_45 (P := P) (w := w) h
  obtain ⟨fd48, F48, ok48⟩ := ok_48 (P := P) (w := w) h
  obtain ⟨fd34, F34, ok34⟩ := ok_34 (P := P) (w := w) h
  obtain ⟨fd39, F39, ok39⟩ := ok_39 (P := P) (w := w) h
  have gf0 : GfOk (gm K) P w mg base 2 ("_law_pen" : PySem.Str) 1 B__law_pen _ fd0 [("_law_script" : PySem.Str)] := ⟨He.glo_ok h.X0 h.G0 (h.c.fact 117), F0.kp, ok0, F0.bindsN (ps := [("_law_script" : PySem.Str)]) fun _ _ _ _ _ _ us hl => match us, hl with | [_], _ => rfl, arF_of⟩
  have g3 : GlOk (gm K) P w mg base 4 ("_law_parts" : PySem.Str) 2 [0] B__law_parts _ fd3 [("_law_pen_here" : PySem.Str), ("_law_most" : PySem.Str)] := ⟨He.glo_ok h.X0 h.G0 (h.c.fact 109), F3.kp, ok3, ar_of⟩
  have g25 : GlOk (gm K) P w mg base 14 ("_law_tour" : PySem.Str) 1 [] B__law_tour _ fd25 [("_law_parts_here" : PySem.Str)] := ⟨He.glo_ok h.X0 h.G0 (h.c.fact 108), F25.kp, ok25, ar_of⟩
  have g45 : GlOk (gm K) P w mg base 13 ("_law_sums_right" : PySem.Str) 2 [] B__law_sums_right _ fd45 [("_law_parts_here" : PySem.Str), ("_law_tour_here" : PySem.Str)] := ⟨He.glo_ok h.X0 h.G0 (h.c.fact 118), F45.kp, ok45, ar_of⟩
  have g48 : GlOk (gm K) P w mg base 15 ("_law_kin_right" : PySem.Str) 3 [0] B__law_kin_right _ fd48 [("_law_pen_here" : PySem.Str), ("_law_parts_here" : PySem.Str), ("_law_tour_here" : PySem.Str)] := ⟨He.glo_ok h.X0 h.G0 (h.c.fact 119), F48.kp, ok48, ar_of⟩
  have g34 : GlOk (gm K) P w mg base 13 ("_law_ages_right" : PySem.Str) 3 [0] B__law_ages_right _ fd34 [("_law_pen_here" : PySem.Str), ("_law_parts_here" : PySem.Str), ("_law_tour_here" : PySem.Str)] := ⟨He.glo_ok h.X0 h.G0 (h.c.fact 120), F34.kp, ok34, ar_of⟩
  have g39 : GlOk (gm K) P w mg base 13 ("_law_news_right" : PySem.Str) 3 [0] B__law_news_right _ fd39 [("_law_pen_here" : PySem.Str), ("_law_parts_here" : PySem.Str), ("_law_tour_here" : PySem.Str)] := ⟨He.glo_ok h.X0 h.G0 (h.c.fact 121), F39.kp, ok39, ar_of⟩
  have hN : N49.Nodup := sc49.nd
  obtain ⟨fd, F⟩ := h.c.def_ 49 (d := d49) rfl
  exact ⟨fd, F, def_ok (G := gm K) (N := N49) (k := 15) (O' := [1]) F sc49 fun cdv A outer s H E hr tk => (s_cons (s_to (O2 := [1]) (s_setF 1 (e_callF tk (hr.mono (by decide)) gf0 (a_cons (e_var 0) a_nil)))) (s_cons (s_to (O2 := [1]) (s_set 2 (e_callO 1 tk (hr.mono (by decide)) g3 (F3.bindsN (ps := [("_law_pen_here" : PySem.Str), ("_law_most" : PySem.Str)]) fun _ _ _ _ _ _ us hl => match us, hl with | [_, _], _ => rfl) (a_cons e_int a_nil)))) (s_cons (s_to (O2 := [1]) (s_set 3 (e_call tk (hr.mono (by decide)) g25 (F25.bindsN (ps := [("_law_parts_here" : PySem.Str)]) fun _ _ _ _ _ _ us hl => match us, hl with | [_], _ => rfl) .nil (fun _ => .nil) (a_cons (e_var 2) a_nil)))) (s_cons (s_if (t_bo (w_or (t_not (t_val (e_call tk (hr.mono (by decide)) g45 (F45.bindsN (ps := [("_law_parts_here" : PySem.Str), ("_law_tour_here" : PySem.Str)]) fun _ _ _ _ _ _ us hl => match us, hl with | [_, _], _ => rfl) .nil (fun _ => .nil) (a_cons (e_var 2) (a_cons (e_var 3) a_nil))))) (w_or1 (t_not (t_val (e_callO 1 tk (hr.mono (by decide)) g48 (F48.bindsN (ps := [("_law_pen_here" : PySem.Str), ("_law_parts_here" : PySem.Str), ("_law_tour_here" : PySem.Str)]) fun _ _ _ _ _ _ us hl => match us, hl with | [_, _, _], _ => rfl) (a_cons (e_var 2) (a_cons (e_var 3) a_nil)))))))) (s_one (s_ret e_bl)) s_nil) (s_one (s_ret (e_and (e_callO 1 tk (hr.mono (by decide)) g34 (F34.bindsN (ps := [("_law_pen_here" : PySem.Str), ("_law_parts_here" : PySem.Str), ("_law_tour_here" : PySem.Str)]) fun _ _ _ _ _ _ us hl => match us, hl with | [_, _, _], _ => rfl) (a_cons (e_var 2) (a_cons (e_var 3) a_nil))) (e_bo1 (e_callO 1 tk (hr.mono (by decide)) g39 (F39.bindsN (ps := [("_law_pen_here" : PySem.Str), ("_law_parts_here" : PySem.Str), ("_law_tour_here" : PySem.Str)]) fun _ _ _ _ _ _ us hl => match us, hl with | [_, _, _], _ => rfl) (a_cons (e_var 2) (a_cons (e_var 3) a_nil)))))))))))⟩
end Kw

namespace Kw
open PySem PySem.Spec PyProof.Rows L2 Z
abbrev Rw : PySem.W.OpenRow := PySem.W.OpenLaw.row PySem.Challenge.rw_whosefirst_k92_ages_of_tours
abbrev hk : PySem.W.Hook := hookZ 5 fz fn
def ob (s : PySem.W.SharedT) : He.AlD := obsZG 5 fz fn (HandSHeadRun.getT s)
theorem ob_eq (s : PySem.W.SharedT) : ob s = hk.obs s.abs := obsZG_eq (HandSHeadRun.getT_eq s)
def loose0 : List PySem.Str := [("_wall" : PySem.Str), ("__name__" : PySem.Str), ("FIGURES" : PySem.Str), ("is_integer" : PySem.Str), ("is_within" : PySem.Str), ("is_listed" : PySem.Str), ("FirstError" : PySem.Str), ("BadRatio" : PySem.Str), ("BadStep" : PySem.Str), ("BadTour" : PySem.Str), ("BadNumber" : PySem.Str), ("Unlike" : PySem.Str), ("TooMany" : PySem.Str), ("BadText" : PySem.Str), ("MOST_FIGURES" : PySem.Str), ("number_in" : PySem.Str), ("Scan" : PySem.Str), ("is_ratio" : PySem.Str), ("are_ratios" : PySem.Str), ("ratio_from" : PySem.Str), ("ratio_in" : PySem.Str), ("take_ratio" : PySem.Str), ("Ratio" : PySem.Str), ("summed" : PySem.Str), ("MOST_AXES" : PySem.Str), ("need_step" : PySem.Str), ("need_axes" : PySem.Str), ("kind_by" : PySem.Str), ("product_at" : PySem.Str), ("take_place" : PySem.Str), ("take_step" : PySem.Str), ("Step" : PySem.Str), ("lit_spot" : PySem.Str), ("MOST_PARTS" : PySem.Str), ("is_part" : PySem.Str), ("Tour" : PySem.Str), ("need_tour" : PySem.Str), ("take_above" : PySem.Str), ("take_tour" : PySem.Str), ("lights_along" : PySem.Str)]
def loose1 : List PySem.Str := [("age_of_light" : PySem.Str), ("straight_square" : PySem.Str), ("spot_at" : PySem.Str), ("age_of_news" : PySem.Str), ("_law_pen" : PySem.Str), ("_law_draw" : PySem.Str), ("_law_pick" : PySem.Str), ("_law_parts" : PySem.Str), ("_law_tour" : PySem.Str), ("_law_plus" : PySem.Str), ("_law_lights" : PySem.Str), ("_law_lit" : PySem.Str), ("_law_is_less" : PySem.Str), ("_law_sums_right" : PySem.Str), ("_law_kin_right" : PySem.Str), ("_law_ages_right" : PySem.Str), ("_law_news_right" : PySem.Str)]
def loose : List PySem.Str := loose0 ++ loose1
theorem run (w : World) : HandSHeadRun.RunEqI Rw (PySem.W.view Rw.prog [0, 65]) hk ob 16000 loose w := by
  unfold HandSHeadRun.RunEqI
  kernel_rfl
end Kw

namespace Kw
open PySem PySem.Spec PyProof.Rows L2 Z
theorem fn_one {K : PySem.W.Frag} {x x' q q' : Str} {ps ps' : Arguments} {b b' : List Stmt} {sc sc' : Scope} {dv dv' : List V} {kw kw' : List (Str × V)} {f : Addr} {fd fd' : FuncData} (h : FunD K x q ps b sc dv kw f fd) (h' : FunD K x' q' ps' b' sc' dv' kw' f fd') : fd = fd' := by
  obtain ⟨_, _, _, _, _, _, _, _, _, _, _, e, _⟩ := h.ex
  obtain ⟨_, _, _, _, _, _, _, _, _, _, _, e', _⟩ := h'.ex
  rw [e] at e'
  cases e'
  rfl
theorem facts {P : Program} {w : World} {K : PySem.W.Frag} {h : Heap} {mg : Str → Option Value} {f : Addr} (X : K.In h) (G : h.Ns mainGlobals mg) (hfa : mg ("law" : PySem.Str) = some (.ref f)) (c : SaysZ fz fn K) :
    ∃ fd : FuncData, (∀ (s : Shared) (v : Value), BindsTo s fd ⟨[v], []⟩ [(("_law_script" : PySem.Str), v)]) ∧ ∀ base : Heap, K.In base → base.Ns mainGlobals mg → FnOk P w K mg base (L2.CX P w) 16 f fd [("_law_script" : PySem.Str)] (spB (gm K) 1 [] B_law) := by
  obtain ⟨fd, F⟩ := c.def_ 49 (d := d49) rfl
  have e := hfa.symm.trans (He.glo_ok X G (c.fact 128 (f := fGlo "law") rfl))
  cases e
  have b := FunD.bindsA (ps := [("_law_script" : PySem.Str)]) F fun _ _ _ _ _ _ us hl => match us, hl with | [_], _ => rfl
  refine ⟨fd, fun s v => b s [v] rfl, fun base kb gb => ?_⟩
  obtain ⟨fd2, F2, ok⟩ := ok_49 (P := P) (w := w) ⟨c, kb, gb⟩
  rw [fn_one F F2]
  exact ok
end Kw

set_option exponentiation.threshold 100
namespace Kw
open PySem PySem.Spec PyProof.Rows L2 Z
/-- a Ratio as a tree -/
def rl (q : Rat) : List D := [.int q.num, .int q.den]
abbrev rt (q : Rat) : D := .ob 0 (rl q)
@[simp] theorem rl_0 (q : Rat) : (rl q)[0]? = some (.int q.num) := rfl
@[simp] theorem rl_1 (q : Rat) : (rl q)[1]? = some (.int q.den) := rfl
/-- less than k bits above and below -/
def Bd (k : Nat) (q : Rat) : Prop := q.num.natAbs < 2 ^ k ∧ q.den < 2 ^ k
theorem Bd.mono {k m : Nat} {q : Rat} (h : Bd k q) (hk : k ≤ m) : Bd m q := ⟨Nat.lt_of_lt_of_le h.1 (Nat.pow_le_pow_right (by omega) hk), Nat.lt_of_lt_of_le h.2 (Nat.pow_le_pow_right (by omega) hk)⟩
theorem B_int (i : Int) : B_is_integer [.int i] = .ok (.bl true) [none] := by
  simp [B_is_integer, mkB, b_is_integer, kT, tyN]
theorem fdiv_nat (a : Int) (g : Nat) : a.fdiv (g : Int) = a / (g : Int) := Int.fdiv_eq_ediv_of_nonneg a (Int.natCast_nonneg g)
theorem B_ratio {n d : Int} (hp : 0 < d) (hb : d.natAbs < 2 ^ 7000) : B_Ratio___init__ [.ob 0 [], .int n, .int d] = .ok .non [some (rt (Rat.divInt n d)), none, none] := by
  have hd : d ≠ 0 := by omega
  have hgd : Int.gcd n d ∣ d.natAbs := by
    rw [Int.gcd]
    exact Nat.gcd_dvd_right _ _
  have hg0 : Int.gcd n d ≠ 0 := fun z => by
    rw [z] at hgd
    have := Nat.eq_zero_of_zero_dvd hgd
    omega
  have hlt : Int.gcd n d < 2 ^ 7000 := Nat.lt_of_le_of_lt (Nat.le_of_dvd (by omega) hgd) hb
  have hw : wd 8000 ((Int.gcd n d : Nat) : Int) = true := wd_of (k := 7000) (by simpa using hlt) (by omega) (by omega)
  have h0 : ((Int.gcd n d : Nat) : Int) ≠ 0 := by omega
  have e1 : (Rat.divInt n d).num = n / (Int.gcd n d : Nat) := by
    rw [Rat.num_divInt, Int.sign_eq_one_of_pos hp, Int.one_mul, Int.gcd_comm]
  have e2 : ((Rat.divInt n d).den : Int) = d / (Int.gcd n d : Nat) := by
    rw [Rat.den_divInt, if_neg hd, Int.gcd_comm, Int.natCast_ediv]
    congr 1
    omega
  simp [B_Ratio___init__, mkB, b_Ratio___init__, B_int, hp, hd, pDiv_int hw h0, fdiv_nat, rl, e1, e2]
theorem divInt_self (q : Rat) : Rat.divInt q.num q.den = q := Rat.num_divInt_den q
@[simp] theorem from_rt (q : Rat) (x : D) : B_ratio_from [rt q, x] = .ok (rt q) [none, none] := by
  simp [B_ratio_from, mkB, b_ratio_from, kO]
theorem from_int (i : Int) (x : D) : B_ratio_from [.int i, x] = .ok (rt i) [none, none] := by
  have e : Rat.divInt i 1 = (i : Rat) := Rat.num_divInt_den (i : Rat)
  have z := B_ratio (n := i) (d := 1) (by omega) (by decide)
  rw [e] at z
  simp [B_ratio_from, mkB, b_ratio_from, kO, tyN, B_int, z]
theorem den_pos (q : Rat) : (0 : Int) < q.den := by have := q.den_pos; omega
theorem Bd.mul1 {k : Nat} {a b : Int} (ha : a.natAbs < 2 ^ k) (hb : b.natAbs < 2 ^ k) (h0 : 0 < k) (hk : k ≤ 400000) : mulB a b = true := mulB_both ha hb h0 h0 hk hk
theorem num_le {n d : Int} (hd : 0 < d) : (Rat.divInt n d).num.natAbs ≤ n.natAbs ∧ (Rat.divInt n d).den ≤ d.natAbs := by
  have hd0 : d ≠ 0 := by omega
  constructor
  · rw [Rat.num_divInt, Int.sign_eq_one_of_pos hd, Int.one_mul, Int.natAbs_ediv_of_dvd (Int.gcd_dvd_right ..)]
    exact Nat.div_le_self _ _
  · rw [Rat.den_divInt, if_neg hd0]
    exact Nat.div_le_self _ _
theorem Bd.of {n d : Int} {k : Nat} (hd : 0 < d) (hn : n.natAbs < 2 ^ k) (hb : d.natAbs < 2 ^ k) : Bd k (Rat.divInt n d) :=
  ⟨Nat.lt_of_le_of_lt (num_le hd).1 hn, Nat.lt_of_le_of_lt (num_le hd).2 hb⟩
theorem abs_mul_lt {a b : Int} {j k : Nat} (ha : a.natAbs < 2 ^ j) (hb : b.natAbs < 2 ^ k) : (a * b).natAbs < 2 ^ (j + k) := by
  rw [Int.natAbs_mul, Nat.pow_add]
  exact Nat.mul_lt_mul'' ha hb
theorem abs_add_lt {a b : Int} {k : Nat} (ha : a.natAbs < 2 ^ k) (hb : b.natAbs < 2 ^ k) : (a + b).natAbs < 2 ^ (k + 1) := by
  have := Int.natAbs_add_le a b
  rw [Nat.pow_succ]
  omega
theorem add_eq (p q : Rat) : p + q = Rat.divInt (p.num * q.den + q.num * p.den) (p.den * q.den) := by
  have h := Rat.divInt_add_divInt p.num q.num (d₁ := p.den) (d₂ := q.den) (by have := den_pos p; omega) (by have := den_pos q; omega)
  rwa [divInt_self, divInt_self] at h
theorem mul_eq (p q : Rat) : p * q = Rat.divInt (p.num * q.num) (p.den * q.den) := by
  have h := Rat.divInt_mul_divInt p.num q.num (d₁ := p.den) (d₂ := q.den)
  rwa [divInt_self, divInt_self] at h
theorem Bd.add {k : Nat} {p q : Rat} (hp : Bd k p) (hq : Bd k q) : Bd (2 * k + 1) (p + q) := by
  rw [add_eq]
  refine Bd.of (Int.mul_pos (den_pos p) (den_pos q)) ?_ ?_
  · have := abs_add_lt (abs_mul_lt hp.1 (show (q.den : Int).natAbs < 2 ^ k by simpa using hq.2)) (abs_mul_lt hq.1 (show (p.den : Int).natAbs < 2 ^ k by simpa using hp.2))
    rwa [show k + k + 1 = 2 * k + 1 by omega] at this
  · have := abs_mul_lt (show (p.den : Int).natAbs < 2 ^ k by simpa using hp.2) (show (q.den : Int).natAbs < 2 ^ k by simpa using hq.2)
    exact Nat.lt_of_lt_of_le this (Nat.pow_le_pow_right (by omega) (by omega))
theorem Bd.mul {k : Nat} {p q : Rat} (hp : Bd k p) (hq : Bd k q) : Bd (2 * k + 1) (p * q) := by
  rw [mul_eq]
  refine Bd.of (Int.mul_pos (den_pos p) (den_pos q)) ?_ ?_
  · exact Nat.lt_of_lt_of_le (abs_mul_lt hp.1 hq.1) (Nat.pow_le_pow_right (by omega) (by omega))
  · have := abs_mul_lt (show (p.den : Int).natAbs < 2 ^ k by simpa using hp.2) (show (q.den : Int).natAbs < 2 ^ k by simpa using hq.2)
    exact Nat.lt_of_lt_of_le this (Nat.pow_le_pow_right (by omega) (by omega))
theorem Bd.neg {k : Nat} {p : Rat} (hp : Bd k p) : Bd k (-p) := ⟨by rw [Rat.neg_num, Int.natAbs_neg]; exact hp.1, by rw [Rat.neg_den]; exact hp.2⟩
theorem Bd.sub {k : Nat} {p q : Rat} (hp : Bd k p) (hq : Bd k q) : Bd (2 * k + 1) (p - q) := by
  rw [Rat.sub_eq_add_neg]
  exact hp.add hq.neg
theorem add_ok {k : Nat} {p q : Rat} (hp : Bd k p) (hq : Bd k q) (h0 : 0 < k) (hk : k ≤ 3490) : B_Ratio___add__ [rt p, rt q] = .ok (rt (p + q)) [none, none] := by
  have hpd : (p.den : Int).natAbs < 2 ^ k := by simpa using hp.2
  have hqd : (q.den : Int).natAbs < 2 ^ k := by simpa using hq.2
  have z := B_ratio (n := p.num * q.den + q.num * p.den) (d := p.den * q.den) (Int.mul_pos (den_pos p) (den_pos q)) (Nat.lt_of_lt_of_le (abs_mul_lt hpd hqd) (Nat.pow_le_pow_right (by omega) (by omega)))
  rw [← add_eq] at z
  have m1 := pMul_int (mulB_both hp.1 hqd h0 h0 (by omega) (by omega))
  have m2 := pMul_int (mulB_both hq.1 hpd h0 h0 (by omega) (by omega))
  have m3 := pMul_int (mulB_both hpd hqd h0 h0 (by omega) (by omega))
  have f := from_rt q (.str "other")
  simp [B_Ratio___add__, mkB, b_Ratio___add__, f, m1, m2, m3, z]
theorem mul_ok {k : Nat} {p q : Rat} (hp : Bd k p) (hq : Bd k q) (h0 : 0 < k) (hk : k ≤ 3490) : B_Ratio___mul__ [rt p, rt q] = .ok (rt (p * q)) [none, none] := by
  have hpd : (p.den : Int).natAbs < 2 ^ k := by simpa using hp.2
  have hqd : (q.den : Int).natAbs < 2 ^ k := by simpa using hq.2
  have z := B_ratio (n := p.num * q.num) (d := p.den * q.den) (Int.mul_pos (den_pos p) (den_pos q)) (Nat.lt_of_lt_of_le (abs_mul_lt hpd hqd) (Nat.pow_le_pow_right (by omega) (by omega)))
  rw [← mul_eq] at z
  have m1 := pMul_int (mulB_both hp.1 hq.1 h0 h0 (by omega) (by omega))
  have m3 := pMul_int (mulB_both hpd hqd h0 h0 (by omega) (by omega))
  have f := from_rt q (.str "other")
  simp [B_Ratio___mul__, mkB, b_Ratio___mul__, f, m1, m3, z]
theorem neg_ok {k : Nat} {p : Rat} (hp : Bd k p) (hk : k ≤ 7000) : B_Ratio___neg__ [rt p] = .ok (rt (-p)) [none] := by
  have hpd : (p.den : Int).natAbs < 2 ^ k := by simpa using hp.2
  have z := B_ratio (n := -p.num) (d := p.den) (den_pos p) (Nat.lt_of_lt_of_le hpd (Nat.pow_le_pow_right (by omega) (by omega)))
  have e : Rat.divInt (-p.num) p.den = -p := divInt_self (-p)
  rw [e] at z
  simp [B_Ratio___neg__, mkB, b_Ratio___neg__, z]
theorem sub_ok {k : Nat} {p q : Rat} (hp : Bd k p) (hq : Bd k q) (h0 : 0 < k) (hk : k ≤ 3490) : B_Ratio___sub__ [rt p, rt q] = .ok (rt (p - q)) [none, none] := by
  have f := from_rt q (.str "other")
  have n := neg_ok hq (by omega)
  have a := add_ok hp hq.neg h0 hk
  rw [Rat.sub_eq_add_neg]
  simp [B_Ratio___sub__, mkB, b_Ratio___sub__, f, n, oW, oC1, rk, a]
theorem sign_ok (p : Rat) : B_Ratio_sign [rt p] = .ok (.int p.num.sign) [none] := by
  have e : (if 0 < p.num then (1 : Int) else 0) - (if p.num < 0 then 1 else 0) = p.num.sign := by
    rcases Int.lt_trichotomy p.num 0 with h | h | h
    · rw [if_neg (by omega), if_pos h, Int.sign_eq_neg_one_of_neg h]; rfl
    · rw [h]; rfl
    · rw [if_pos h, if_neg (by omega), Int.sign_eq_one_of_pos h]; rfl
  simp [B_Ratio_sign, mkB, b_Ratio_sign, e]
theorem eq_ok (p q : Rat) : B_Ratio___eq__ [rt p, rt q] = .ok (.bl (decide (p = q))) [none, none] := by
  by_cases h : p.num = q.num
  · by_cases h2 : p.den = q.den
    · have e : p = q := Rat.ext h h2
      subst e
      simp [B_Ratio___eq__, mkB, b_Ratio___eq__, kO]
    · have e : p ≠ q := fun z => h2 (by rw [z])
      have h3 : ¬ (p.den : Int) = q.den := by omega
      simp [B_Ratio___eq__, mkB, b_Ratio___eq__, kO, h, h3, e]
  · have e : p ≠ q := fun z => h (by rw [z])
    simp [B_Ratio___eq__, mkB, b_Ratio___eq__, kO, h, e]
theorem eq_int (p : Rat) (i : Int) : B_Ratio___eq__ [rt p, .int i] = .ok (.bl (decide (p = i))) [none, none] := by
  by_cases h2 : p.den = 1
  · by_cases h : p.num = i
    · have e : p = (i : Rat) := Rat.ext h h2
      simp [B_Ratio___eq__, mkB, b_Ratio___eq__, kO, tyN, B_int, h, h2, e]
    · have e : p ≠ (i : Rat) := fun z => h (by rw [z]; rfl)
      simp [B_Ratio___eq__, mkB, b_Ratio___eq__, kO, tyN, B_int, h, h2, e]
  · have e : p ≠ (i : Rat) := fun z => h2 (by rw [z]; rfl)
    have h3 : (p.den : Int) ≠ 1 := by omega
    simp [B_Ratio___eq__, mkB, b_Ratio___eq__, kO, tyN, B_int, h2, h3, e]
theorem below_ok {k : Nat} {p q : Rat} (hp : Bd k p) (hq : Bd k q) (h0 : 0 < k) (hk : k ≤ 3490) : B_Ratio_is_below [rt p, rt q] = .ok (.bl (decide (p < q))) [none, none] := by
  have f := from_rt q (.str "other")
  have a := sub_ok hp hq h0 hk
  have s := sign_ok (p - q)
  have e : (p - q).num.sign < 0 ↔ p < q := by
    have h1 : (p - q).num.sign < 0 ↔ (p - q).num < 0 := ⟨fun z => Int.sign_eq_neg_one_iff_neg.mp (by have := Int.sign_trichotomy (p - q).num; omega), fun z => by rw [Int.sign_eq_neg_one_of_neg z]; omega⟩
    rw [h1, ← Int.not_le, Rat.num_nonneg, Rat.not_le]
    constructor
    · intro z
      grind
    · intro z
      grind
  simp [B_Ratio_is_below, mkB, b_Ratio_is_below, f, oW, rk, a, s, e]
@[simp] theorem is_ratio_rt (q : Rat) : B_is_ratio [rt q] = .ok (.bl true) [none] := by
  simp [B_is_ratio, mkB, b_is_ratio, kO]
@[simp] theorem is_ratio_int (i : Int) : B_is_ratio [.int i] = .ok (.bl true) [none] := by
  simp [B_is_ratio, mkB, b_is_ratio, kO, tyN, B_int]
end Kw

namespace Kw
open PySem PySem.Spec PyProof.Rows L2 Z
def AllB (k : Nat) (xs : List Rat) : Prop := ∀ x ∈ xs, Bd k x
@[simp] theorem listed_lst (l : List D) : B_is_listed [.lst l] = .ok (.bl true) [none] := by
  simp [B_is_listed, mkB, b_is_listed, kAny, kT, tyN]
theorem three {xs : List Rat} (h : xs.length ≤ 3) (h1 : 1 ≤ xs.length) : (∃ a, xs = [a]) ∨ (∃ a b, xs = [a, b]) ∨ ∃ a b c, xs = [a, b, c] := by
  match xs, h, h1 with
  | [a], _, _ => exact .inl ⟨a, rfl⟩
  | [a, b], _, _ => exact .inr (.inl ⟨a, b, rfl⟩)
  | [a, b, c], _, _ => exact .inr (.inr ⟨a, b, c, rfl⟩)
theorem are_ok {xs : List Rat} (h : xs.length ≤ 3) (h1 : 1 ≤ xs.length) : B_are_ratios [.lst (xs.map rt)] = .ok (.bl true) [none] := by
  rcases three h h1 with ⟨a, rfl⟩ | ⟨a, b, rfl⟩ | ⟨a, b, c, rfl⟩ <;>
  simp [B_are_ratios, mkB, b_are_ratios, itemsOf, big, lcGo, lcOut, wipeE, backE, pAll, lisOf, toBls]
theorem new0 : B_Ratio___init__ [.ob 0 [], .int 0, .int 1] = .ok .non [some (rt 0), none, none] := by
  have z := B_ratio (n := 0) (d := 1) (by omega) (by decide)
  rwa [Rat.zero_divInt] at z
theorem Bd.zero {k : Nat} (h : 0 < k) : Bd k 0 := by
  have : 1 < 2 ^ k := Nat.one_lt_two_pow (by omega)
  exact ⟨by show (0 : Int).natAbs < _; simp; omega, this⟩
theorem summed_ok {xs : List Rat} {k : Nat} (h : xs.length ≤ 3) (h1 : 1 ≤ xs.length) (hb : AllB k xs) (h0 : 0 < k) (hk : k ≤ 700) : B_summed [.lst (xs.map rt)] = .ok (rt (xs.foldl (· + ·) 0)) [none] := by
  have ar := are_ok h h1
  rcases three h h1 with ⟨a, rfl⟩ | ⟨a, b, rfl⟩ | ⟨a, b, c, rfl⟩
  · have e1 := add_ok (Bd.zero h0) (hb a (by simp)) h0 (by omega)
    simp at ar e1
    simp [B_summed, mkB, b_summed, itemsOf, ar, new0, forGo, oW, rk, e1]
  · have b1 := (Bd.zero h0).add (hb a (by simp))
    have e1 := add_ok (Bd.zero h0) (hb a (by simp)) h0 (by omega)
    have e2 := add_ok b1 ((hb b (by simp)).mono (by omega : k ≤ 2 * k + 1)) (by omega) (by omega)
    simp at ar e1 e2
    simp [B_summed, mkB, b_summed, itemsOf, ar, new0, forGo, oW, rk, e1, e2]
  · have b1 := (Bd.zero h0).add (hb a (by simp))
    have b2 := b1.add ((hb b (by simp)).mono (by omega : k ≤ 2 * k + 1))
    have e1 := add_ok (Bd.zero h0) (hb a (by simp)) h0 (by omega)
    have e2 := add_ok b1 ((hb b (by simp)).mono (by omega : k ≤ 2 * k + 1)) (by omega) (by omega)
    have e3 := add_ok b2 ((hb c (by simp)).mono (by omega : k ≤ 2 * (2 * k + 1) + 1)) (by omega) (by omega)
    simp at ar e1 e2 e3
    simp [B_summed, mkB, b_summed, itemsOf, ar, new0, forGo, oW, rk, e1, e2, e3]
end Kw

namespace Kw
open PySem PySem.Spec PyProof.Rows L2 Z
def dot (t : Rat) (xs : List Rat) (u : Rat) (ys : List Rat) : Rat := t * u - (List.zipWith (· * ·) xs ys).foldl (· + ·) 0
theorem AllB.cons {k : Nat} {x : Rat} {xs : List Rat} (h : Bd k x) (t : AllB k xs) : AllB k (x :: xs) := fun y m => by
  rcases List.mem_cons.mp m with e | m
  · rw [e]; exact h
  · exact t y m
theorem AllB.nil {k : Nat} : AllB k [] := fun _ m => nomatch m
theorem sum_bd {k : Nat} {xs : List Rat} (h : xs.length ≤ 3) (h0 : 0 < k) (hb : AllB k xs) : Bd (8 * k + 7) (xs.foldl (· + ·) 0) := by
  match xs, h, hb with
  | [], _, _ => exact Bd.zero (by omega)
  | [a], _, hb => exact ((Bd.zero h0).add (hb a (by simp))).mono (by omega)
  | [a, b], _, hb => exact (((Bd.zero h0).add (hb a (by simp))).add ((hb b (by simp)).mono (by omega : k ≤ 2 * k + 1))).mono (by omega)
  | [a, b, c], _, hb => exact ((((Bd.zero h0).add (hb a (by simp))).add ((hb b (by simp)).mono (by omega : k ≤ 2 * k + 1))).add ((hb c (by simp)).mono (by omega : k ≤ 2 * (2 * k + 1) + 1))).mono (by omega)
theorem zip_bd {k : Nat} : ∀ {xs ys : List Rat}, AllB k xs → AllB k ys → AllB (2 * k + 1) (List.zipWith (· * ·) xs ys)
  | [], _, _, _ => by simp [AllB]
  | _ :: _, [], _, _ => by simp [AllB]
  | x :: xs, y :: ys, hx, hy => .cons ((hx x (by simp)).mul (hy y (by simp))) (zip_bd (fun z m => hx z (List.mem_cons_of_mem _ m)) fun z m => hy z (List.mem_cons_of_mem _ m))
theorem dot_bd {k : Nat} {t u : Rat} {xs ys : List Rat} (h : xs.length ≤ 3) (ht : Bd k t) (hu : Bd k u) (hx : AllB k xs) (hy : AllB k ys) : Bd (32 * k + 31) (dot t xs u ys) := by
  have s := sum_bd (xs := List.zipWith (· * ·) xs ys) (by simp; omega) (by omega) (zip_bd hx hy)
  exact (((ht.mul hu).mono (by omega : 2 * k + 1 ≤ 16 * k + 15)).sub (s.mono (by omega))).mono (by omega)
theorem product_ok {k : Nat} {t u : Rat} {xs ys : List Rat} {l m : List D} (h : xs.length ≤ 3) (h1 : 1 ≤ xs.length) (e : ys.length = xs.length) (ht : Bd k t) (hu : Bd k u) (hx : AllB k xs) (hy : AllB k ys) (h0 : 0 < k) (hk : k ≤ 80) :
    B_product_at [.ob 1 (rt t :: .tup (xs.map rt) :: l), .ob 1 (rt u :: .tup (ys.map rt) :: m)] = .ok (rt (dot t xs u ys)) [none, none] := by
  have sm := summed_ok (xs := List.zipWith (· * ·) xs ys) (k := 2 * k + 1) (by simp; omega) (by simp; omega) (zip_bd hx hy) (by omega) (by omega)
  have sb := sum_bd (xs := List.zipWith (· * ·) xs ys) (by simp; omega) (by omega) (zip_bd hx hy)
  have m0 := mul_ok ht hu h0 (by omega)
  have d0 := sub_ok ((ht.mul hu).mono (by omega : 2 * k + 1 ≤ 16 * k + 15)) (sb.mono (by omega : 8 * (2 * k + 1) + 7 ≤ 16 * k + 15)) (by omega) (by omega)
  rcases three h h1 with ⟨a, rfl⟩ | ⟨a, b, rfl⟩ | ⟨a, b, c, rfl⟩
  · match ys, e, hy with
    | [a'], _, hy =>
      have m1 := mul_ok (hx a (by simp)) (hy a' (by simp)) h0 (by omega)
      simp at sm
      simp [B_product_at, mkB, b_product_at, oW, rk, m0, m1, pZip, itemsOf, isTupD, zipD, big, lcGo, lcOut, wipeE, backE, gTs, sm]
      simp at d0
      simp [d0, dot]
  · match ys, e, hy with
    | [a', b'], _, hy =>
      have m1 := mul_ok (hx a (by simp)) (hy a' (by simp)) h0 (by omega)
      have m2 := mul_ok (hx b (by simp)) (hy b' (by simp)) h0 (by omega)
      simp at sm
      simp [B_product_at, mkB, b_product_at, oW, rk, m0, m1, m2, pZip, itemsOf, isTupD, zipD, big, lcGo, lcOut, wipeE, backE, gTs, sm]
      simp at d0
      simp [d0, dot]
  · match ys, e, hy with
    | [a', b', c'], _, hy =>
      have m1 := mul_ok (hx a (by simp)) (hy a' (by simp)) h0 (by omega)
      have m2 := mul_ok (hx b (by simp)) (hy b' (by simp)) h0 (by omega)
      have m3 := mul_ok (hx c (by simp)) (hy c' (by simp)) h0 (by omega)
      simp at sm
      simp [B_product_at, mkB, b_product_at, oW, rk, m0, m1, m2, m3, pZip, itemsOf, isTupD, zipD, big, lcGo, lcOut, wipeE, backE, gTs, sm]
      simp at d0
      simp [d0, dot]
def knd (t s : Rat) : Str := if s < 0 then "apart" else if t = 0 then "nothing" else if 0 < t then "forward" else "backward"
theorem sg_neg (p : Rat) : p.num.sign < 0 ↔ p < 0 := by
  rw [← Rat.not_le, ← Rat.num_nonneg, Int.not_le]
  exact ⟨fun z => Int.sign_eq_neg_one_iff_neg.mp (by have := Int.sign_trichotomy p.num; omega), fun z => by rw [Int.sign_eq_neg_one_of_neg z]; omega⟩
theorem sg_zero (p : Rat) : p.num.sign = 0 ↔ p = 0 := by
  rw [Int.sign_eq_zero_iff_zero]
  exact Rat.num_eq_zero
theorem sg_pos (p : Rat) : 0 < p.num.sign ↔ 0 < p := by
  have h1 := sg_neg p
  have h2 := sg_zero p
  constructor
  · intro z
    have a : ¬ p < 0 := fun q => by have := h1.mpr q; omega
    have b : ¬ p = 0 := fun q => by have := h2.mpr q; omega
    grind
  · intro z
    have a : ¬ p.num.sign < 0 := fun q => by have := h1.mp q; grind
    have b : ¬ p.num.sign = 0 := fun q => by have := h2.mp q; grind
    omega
theorem nm_neg (p : Rat) : p.num < 0 ↔ p < 0 := by
  rw [← Int.not_le, Rat.num_nonneg, Rat.not_le]
theorem nm_pos (p : Rat) : 0 < p.num ↔ 0 < p := by
  have h := Rat.num_nonneg (q := p)
  have h2 := nm_neg p
  have h3 : p.num = 0 ↔ p = 0 := Rat.num_eq_zero
  constructor
  · intro z
    have : ¬ p = 0 := fun q => by have := h3.mpr q; omega
    have : 0 ≤ p := h.mp (by omega)
    grind
  · intro z
    have : ¬ p.num = 0 := fun q => by have := h3.mp q; grind
    have : 0 ≤ p.num := h.mpr (by grind)
    omega
theorem kind_ok (t s : Rat) : B_kind_by [rt t, rt s] = .ok (.str (knd t s)) [none, none] := by
  unfold knd
  by_cases h1 : s < 0
  · simp [B_kind_by, mkB, b_kind_by, sign_ok, nm_neg, h1]
  · by_cases h2 : t = 0
    · simp [B_kind_by, mkB, b_kind_by, sign_ok, nm_neg, h1, h2]
    · by_cases h3 : 0 < t
      · simp [B_kind_by, mkB, b_kind_by, sign_ok, nm_neg, nm_pos, h1, h2, h3]
      · simp [B_kind_by, mkB, b_kind_by, sign_ok, nm_neg, nm_pos, h1, h2, h3]
/-- a Step as a tree -/
def sl (t : Rat) (xs : List Rat) : List D := [rt t, .tup (xs.map rt), .int (xs.length : Nat), rt (dot t xs t xs), .str (knd t (dot t xs t xs))]
abbrev stp (t : Rat) (xs : List Rat) : D := .ob 1 (sl t xs)
@[simp] theorem sl_0 (t : Rat) (xs : List Rat) : (sl t xs)[0]? = some (rt t) := rfl
@[simp] theorem sl_1 (t : Rat) (xs : List Rat) : (sl t xs)[1]? = some (.tup (xs.map rt)) := rfl
@[simp] theorem sl_2 (t : Rat) (xs : List Rat) : (sl t xs)[2]? = some (.int (xs.length : Nat)) := rfl
@[simp] theorem sl_3 (t : Rat) (xs : List Rat) : (sl t xs)[3]? = some (rt (dot t xs t xs)) := rfl
@[simp] theorem sl_4 (t : Rat) (xs : List Rat) : (sl t xs)[4]? = some (.str (knd t (dot t xs t xs))) := rfl
@[simp] theorem of_rt (q : Rat) : B_Ratio_of [rt q] = .ok (rt q) [none] := by
  simp [B_Ratio_of, mkB, b_Ratio_of]
theorem step_ok {k : Nat} {t : Rat} {xs : List Rat} (h : xs.length ≤ 3) (h1 : 1 ≤ xs.length) (ht : Bd k t) (hx : AllB k xs) (h0 : 0 < k) (hk : k ≤ 80) : B_Step___init__ [.ob 1 [], rt t, .lst (xs.map rt)] = .ok .non [some (stp t xs), none, none] := by
  have ar := are_ok h h1
  have pr := product_ok (l := [.int (xs.length : Nat)]) (m := [.int (xs.length : Nat)]) h h1 rfl ht ht hx hx h0 hk
  have kd := kind_ok t (dot t xs t xs)
  rcases three h h1 with ⟨a, rfl⟩ | ⟨a, b, rfl⟩ | ⟨a, b, c, rfl⟩ <;>
  (simp only [List.map_cons, List.map_nil, List.length_cons, List.length_nil] at ar pr
   generalize hd : dot t _ t _ = dd at pr kd
   simp at ar pr
   simp [B_Step___init__, mkB, b_Step___init__, ar, onBl, pLen, itemsOf, big, lcGo, lcOut, wipeE, backE, pTuple, pr, kd, sl, hd])
end Kw

namespace Kw
open PySem PySem.Spec PyProof.Rows L2 Z
@[simp] theorem look_0 {α : Type} (a : α) (l : List (Nat × α)) : List.lookup (0 : Nat) ((0, a) :: l) = some a := rfl
@[simp] theorem look_1 {α : Type} (a b : α) (l : List (Nat × α)) : List.lookup (1 : Nat) ((0, a) :: (1, b) :: l) = some b := rfl
@[simp] theorem look_2 {α : Type} (a b c : α) (l : List (Nat × α)) : List.lookup (2 : Nat) ((0, a) :: (1, b) :: (2, c) :: l) = some c := rfl
@[simp] theorem look_2' {α : Type} (c : α) (l : List (Nat × α)) : List.lookup (2 : Nat) ((2, c) :: l) = some c := rfl
@[simp] theorem look_1' {α : Type} (c : α) (l : List (Nat × α)) : List.lookup (1 : Nat) ((1, c) :: l) = some c := rfl
@[simp] theorem ix_lst0 (x : D) (l : List D) : pIx (.lst (x :: l)) (.int 0) = some x := by
  simp [pIx, atI, ixN]
@[simp] theorem ix_tup (l : List D) (i : Nat) : pIx (.tup l) (.int (i : Nat)) = l[i]? := by
  unfold pIx atI ixN
  by_cases h : i < l.length
  · simp [h]
  · simp [h, List.getElem?_eq_none (Nat.le_of_not_lt h)]
@[simp] theorem ix_lst (l : List D) (i : Nat) : pIx (.lst l) (.int (i : Nat)) = l[i]? := by
  unfold pIx atI ixN
  by_cases h : i < l.length
  · simp [h]
  · simp [h, List.getElem?_eq_none (Nat.le_of_not_lt h)]
@[simp] theorem ix_tup_0 (x : D) (l : List D) : pIx (.tup (x :: l)) (.int 0) = some x := by
  simp [pIx, atI, ixN]
@[simp] theorem ix_tup_1 (x y : D) (l : List D) : pIx (.tup (x :: y :: l)) (.int 1) = some y := by
  have : (1 : Int) < (l.length : Int) + 1 + 1 := by omega
  simp [pIx, atI, ixN, this]
@[simp] theorem ix_tup_2 (x y z : D) (l : List D) : pIx (.tup (x :: y :: z :: l)) (.int 2) = some z := by
  have : (2 : Int) < (l.length : Int) + 1 + 1 + 1 := by omega
  simp [pIx, atI, ixN, this]
theorem atI_last (l : List D) (x : D) : atI (l ++ [x]) (-1) = some x := by
  unfold atI ixN
  have h : (1 : Int) ≤ (l.length : Int) + 1 := by omega
  have e : (-1 + ((l.length : Int) + 1)).toNat = l.length := by omega
  simp [h, e]
@[simp] theorem ix_last_l (l : List D) (x : D) : pIx (.lst (l ++ [x])) (.int (-1)) = some x := atI_last l x
@[simp] theorem ix_last_t (l : List D) (x : D) : pIx (.tup (l ++ [x])) (.int (-1)) = some x := atI_last l x
/-- the pen: what it draws from; not yet asked more than n times -/
def Pen (n : Nat) (d : D) : Prop := ∃ (L : List Int) (t r : Int), d = .lst [.lst (L.map .int), .int t, .int r] ∧ 0 ≤ t ∧ t ≤ n
theorem fmod_in {a m : Int} (h : 0 < m) : 0 ≤ a.fmod m ∧ a.fmod m < m := ⟨Int.fmod_nonneg_of_pos a h, Int.fmod_lt_of_pos a h⟩
theorem ix_own0 (x : D) (l : List D) : pIx (.lst (x :: l)) (.int 0) = some x := ix_lst0 x l
@[simp] theorem ix_lst1 (x y : D) (l : List D) : pIx (.lst (x :: y :: l)) (.int 1) = some y := by
  have : (1 : Int) < (l.length : Int) + 1 + 1 := by omega
  simp [pIx, atI, ixN, this]
@[simp] theorem ix_lst2 (x y z : D) (l : List D) : pIx (.lst (x :: y :: z :: l)) (.int 2) = some z := by
  have : (2 : Int) < (l.length : Int) + 1 + 1 + 1 := by omega
  simp [pIx, atI, ixN, this]
@[simp] theorem set_1 (x y z d : D) : ixSet [x, y, z] (.int 1) d = some [x, d, z] := rfl
@[simp] theorem set_2 (x y z d : D) : ixSet [x, y, z] (.int 2) d = some [x, y, d] := rfl
theorem cell_ok (L : List Int) (i : Int) (h : 0 ≤ i) (h1 : i < L.length) : ∃ c, pIx (.lst (L.map D.int)) (.int i) = some (.int c) := by
  have hn : i.toNat < L.length := by omega
  refine ⟨L[i.toNat], ?_⟩
  simp [pIx, atI, ixN, h, h1, hn]
@[simp] theorem len_ints (L : List Int) : pLen [.lst (L.map D.int)] = some (.int (L.length : Nat)) := by
  rw [pLen_lst, List.length_map]
theorem p18 : pPow (.int 10) (.int 18) = some (.int 1000000000000000000) := by
  rw [pPow_int (by decide) (by decide) (by decide)]
  rfl
def mixI (c t : Int) : Int := (((((c.fmod 2147483587 + 83227 * t + 4919) ^ 5).fmod 2147483629 * (2 * t + 2381) + 71257 * t * t + 83227) ^ 3).fmod 2147483549).fdiv 64
theorem draw_ok {n : Nat} {d : D} {m : Int} (h : Pen n d) (hn : n ≤ 2 ^ 20) (hm : 0 < m) (hmb : m.natAbs < 2 ^ 60) : ∃ x d', B__law_draw [d, .int m] = .ok (.int x) [some d', none] ∧ 0 ≤ x ∧ x < m ∧ Pen (n + 1) d' := by
  obtain ⟨L, t, r, rfl, t0, tn⟩ := h
  have hm0 : m ≠ 0 := by omega
  have hw : wd 8000 m = true := wd_of hmb (by omega) (by omega)
  have dv := fun i : Int => pDiv_int (i := i) hw hm0
  have md := fun i : Int => pMod_int (i := i) hm0
  by_cases hr : 0 < r
  · refine ⟨r.fmod m, .lst [.lst (L.map .int), .int t, .int (r.fdiv m)], ?_, (fmod_in hm).1, (fmod_in hm).2, L, t, _, rfl, t0, by omega⟩
    simp [B__law_draw, mkB, b__law_draw, hr, dv, md]
  · have tb : t.natAbs < 2 ^ 60 := by omega
    have m1 := pMul_int (mulB_left (i := 71257) (j := t) (by decide))
    have m2 := pMul_int (mulB_left (i := 83227) (j := t) (by decide))
    have m3 := pMul_int (mulB_left (i := 2) (j := t) (by decide))
    have m4 := pMul_int (mulB_right (i := 71257 * t) (j := t) tb)
    have g1 := fun i : Int => pMod_int (i := i) (j := 2147483587) (by decide)
    have g2 := fun i : Int => pMod_int (i := i) (j := 2147483629) (by decide)
    have g3 := fun i : Int => pMod_int (i := i) (j := 2147483549) (by decide)
    have d64 := fun i : Int => pDiv_int (i := i) (j := 64) (wd_of (k := 7) (by decide) (by omega) (by omega)) (by decide)
    have nn := pNe_nil L
    have tt : t * t ≤ 2 ^ 40 ∧ 0 ≤ t * t := by
      have h1 : t ≤ 2 ^ 20 := by omega
      have h2 := Int.mul_le_mul h1 h1 t0 (by decide)
      exact ⟨by omega, Int.mul_nonneg t0 t0⟩
    have w5 : ∀ c : Int, pPow (.int (c.fmod 2147483587 + 83227 * t + 4919)) (.int 5) = some (.int ((c.fmod 2147483587 + 83227 * t + 4919) ^ 5)) := fun c => pPow_int (i := c.fmod 2147483587 + 83227 * t + 4919) (j := 5) (by decide) (by decide) (by have := fmod_in (a := c) (m := 2147483587) (by decide); omega)
    have mm := fun y : Int => pMul_int (mulB_left (i := y.fmod 2147483629) (j := 2 * t + 2381) (by have := fmod_in (a := y) (m := 2147483629) (by decide); omega))
    have w3 : ∀ y : Int, pPow (.int (y.fmod 2147483629 * (2 * t + 2381) + 71257 * t * t + 83227)) (.int 3) = some (.int ((y.fmod 2147483629 * (2 * t + 2381) + 71257 * t * t + 83227) ^ 3)) := fun y => pPow_int (i := y.fmod 2147483629 * (2 * t + 2381) + 71257 * t * t + 83227) (j := 3) (by decide) (by decide) (by
      have h1 := fmod_in (a := y) (m := 2147483629) (by decide)
      have h2 : y.fmod 2147483629 * (2 * t + 2381) ≤ 2147483629 * (2 * t + 2381) := Int.mul_le_mul_of_nonneg_right (by omega) (by omega)
      have h3 : 0 ≤ y.fmod 2147483629 * (2 * t + 2381) := Int.mul_nonneg h1.1 (by omega)
      rw [Int.mul_assoc]
      omega)
    cases hL : L with
    | nil =>
      subst hL
      have lt : ¬ t < 0 := by omega
      simp only [List.map_nil, List.isEmpty_nil, Bool.not_true] at nn
      refine ⟨(mixI (71257 * t + 4919) t).fmod m, .lst [.lst [], .int (t + 1), .int r], ?_, (fmod_in hm).1, (fmod_in hm).2, [], t + 1, r, rfl, by omega, by omega⟩
      simp [B__law_draw, mkB, b__law_draw, hr, dv, md, nn, m1, m2, m3, m4, g1, g2, g3, d64, w5, mm, w3, pLst_ok, lt, pLen_lst, mixI]
    | cons l0 L' =>
      rw [← hL]
      have hpos : 0 < L.length := by rw [hL]; simp
      have hp : (0 : Int) < (L.length : Nat) := by omega
      have hi := fmod_in (a := t) hp
      obtain ⟨c, hc⟩ := cell_ok L (t.fmod (L.length : Nat)) hi.1 hi.2
      have gl := pMod_int (i := t) (j := (L.length : Nat)) (by omega)
      have ne : L.isEmpty = false := by rw [hL]; rfl
      rw [ne] at nn
      by_cases hb : t < (L.length : Nat) ∧ 1000000000000000000 ≤ (if c < 0 then -c else c)
      · have m5 := pMul_int (mulB_left (i := 2) (j := (if c < 0 then -c else c) - 1000000000000000000) (by decide))
        refine ⟨(2 * ((if c < 0 then -c else c) - 1000000000000000000) + (if c < 0 then 1 else 0)).fmod m, .lst [.lst (L.map .int), .int (t + 1), .int ((2 * ((if c < 0 then -c else c) - 1000000000000000000) + (if c < 0 then 1 else 0)).fdiv m)], ?_, (fmod_in hm).1, (fmod_in hm).2, L, t + 1, _, rfl, by omega, by omega⟩
        simp [B__law_draw, mkB, b__law_draw, hr, dv, md, nn, m1, pLst_ok, gl, hc, hb.1, hb.2, p18, m5]
      · refine ⟨(mixI c t).fmod m, .lst [.lst (L.map .int), .int (t + 1), .int r], ?_, (fmod_in hm).1, (fmod_in hm).2, L, t + 1, r, rfl, by omega, by omega⟩
        by_cases hb1 : t < (L.length : Nat)
        · have hb2 : ¬ 1000000000000000000 ≤ (if c < 0 then -c else c) := fun z => hb ⟨hb1, z⟩
          simp [B__law_draw, mkB, b__law_draw, hr, dv, md, nn, m1, m2, m3, m4, g1, g2, g3, d64, w5, mm, w3, pLst_ok, gl, hc, hb1, hb2, p18, mixI]
        · simp [B__law_draw, mkB, b__law_draw, hr, dv, md, nn, m1, m2, m3, m4, g1, g2, g3, d64, w5, mm, w3, pLst_ok, gl, hc, hb1, mixI]
end Kw

namespace Kw
open PySem PySem.Spec PyProof.Rows L2 Z
theorem Bd.add2 {j k : Nat} {p q : Rat} (hp : Bd j p) (hq : Bd k q) : Bd (j + k + 1) (p + q) := by
  rw [add_eq]
  have h1 : (q.den : Int).natAbs < 2 ^ k := by simpa using hq.2
  have h2 : (p.den : Int).natAbs < 2 ^ j := by simpa using hp.2
  refine Bd.of (Int.mul_pos (den_pos p) (den_pos q)) ?_ ?_
  · have a := abs_mul_lt hp.1 h1
    have b := abs_mul_lt hq.1 h2
    rw [Nat.add_comm k j] at b
    exact abs_add_lt a b
  · exact Nat.lt_of_lt_of_le (abs_mul_lt h2 h1) (Nat.pow_le_pow_right (by omega) (by omega))
theorem Bd.mul2 {j k : Nat} {p q : Rat} (hp : Bd j p) (hq : Bd k q) : Bd (j + k) (p * q) := by
  rw [mul_eq]
  have h1 : (q.den : Int).natAbs < 2 ^ k := by simpa using hq.2
  have h2 : (p.den : Int).natAbs < 2 ^ j := by simpa using hp.2
  exact Bd.of (Int.mul_pos (den_pos p) (den_pos q)) (abs_mul_lt hp.1 hq.1) (abs_mul_lt h2 h1)
theorem Bd.sub2 {j k : Nat} {p q : Rat} (hp : Bd j p) (hq : Bd k q) : Bd (j + k + 1) (p - q) := by
  rw [Rat.sub_eq_add_neg]
  exact hp.add2 hq.neg
theorem lc_map {α : Type} {vs : List Nat} {g : Tg} {t : M Bool} {f : M D} (h out : α → D) (P : Ev → Prop) : ∀ (xs : List α), (∀ x ∈ xs, ∀ r, P r → ∃ r1 r2, g (h x) (wipeE vs r) = some r1 ∧ t r1 = .ok true r1 ∧ f r1 = .ok (out x) r2 ∧ P r2) → ∀ r, P r → ∃ r', P r' ∧ lcGo vs g t f (xs.map h) r = some (xs.map out, r')
  | [], _, r, p => ⟨r, p, rfl⟩
  | x :: xs, hs, r, p => by
    obtain ⟨r1, r2, e1, e2, e3, p2⟩ := hs x (by simp) r p
    obtain ⟨r3, p3, e4⟩ := lc_map h out P xs (fun y m => hs y (List.mem_cons_of_mem _ m)) r2 p2
    exact ⟨r3, p3, by simp [lcGo, e1, e2, e3, e4]⟩
theorem for_map {α : Type} {g : Tg} {b : M Fl} (h : α → D) (I : List α → Ev → Prop) (xs : List α) (step : ∀ pre x post, xs = pre ++ x :: post → ∀ r, I pre r → ∃ r1 r2, g (h x) r = some r1 ∧ b r1 = .ok .nx r2 ∧ I (pre ++ [x]) r2) :
    ∀ (post pre : List α), xs = pre ++ post → ∀ r, I pre r → ∃ r', I xs r' ∧ forGo g b (post.map h) r = .ok .nx r'
  | [], pre, e, r, p => ⟨r, by rw [e, List.append_nil]; exact p, rfl⟩
  | x :: post, pre, e, r, p => by
    obtain ⟨r1, r2, e1, e2, p2⟩ := step pre x post e r p
    obtain ⟨r3, p3, e3⟩ := for_map h I xs step post (pre ++ [x]) (by rw [e, List.append_assoc]; rfl) r2 p2
    exact ⟨r3, p3, by simp [forGo, e1, e2, e3]⟩
theorem Pen.mono {n m : Nat} {d : D} (h : Pen n d) (hm : n ≤ m) : Pen m d := by
  obtain ⟨L, t, r, e, h1, h2⟩ := h
  exact ⟨L, t, r, e, h1, by omega⟩
theorem pick_ok {n : Nat} {d : D} {l : List D} (h : Pen n d) (hn : n ≤ 2 ^ 20) (h0 : 0 < l.length) (hl : l.length < 2 ^ 50) : ∃ (i : Nat) (x : D) (d' : D), l[i]? = some x ∧ B__law_pick [d, .lst l] = .ok x [some d', none] ∧ Pen (n + 1) d' := by
  obtain ⟨x, d', e, x0, x1, p⟩ := draw_ok (m := (l.length : Nat)) h hn (by omega) (by simp; omega)
  obtain ⟨i, rfl⟩ : ∃ i : Nat, x = i := ⟨x.toNat, by omega⟩
  have hi : i < l.length := by omega
  refine ⟨i, l[i], d', List.getElem?_eq_getElem hi, ?_, p⟩
  simp [B__law_pick, mkB, b__law_pick, pLen_lst, e, hi]
structure Part where
  a : Int
  b : Int
  c : Int
  d : Int
def pD (p : Part) : D := .tup [.tup [.int p.a, .int p.b], .tup [.int p.c, .int p.d]]
structure POk (K : Int) (p : Part) : Prop where
  a0 : 0 < p.a
  a1 : p.a ≤ K
  b0 : 0 < p.b
  b1 : p.b ≤ K
  c0 : 0 < p.c
  c1 : p.c ≤ 20
  d0 : 0 < p.d
  d1 : p.d ≤ 6
theorem rng_eq (k : Nat) : rng 0 (k : Int) = (List.range k).map fun i => D.int (i : Nat) := by
  unfold rng
  rw [show ((k : Int) - 0).toNat = k by omega]
  simp
theorem pRng_nat (k : Nat) (hk : k < 1000) : pRng [.int (k : Int)] = some ((List.range k).map fun i => D.int (i : Nat)) := by
  have h : -(2 ^ 62) ≤ (k : Int) ∧ (k : Int) < 2 ^ 62 := by omega
  simp only [pRng]
  rw [if_pos h, rng_eq]
def lapP : M Fl := (sApp 2 (eN pTup (aCons (eN pTup (aCons (eB (oP pAdd) (eK (.int 1)) (eCo B__law_draw 0 (aCons (eV 3) aNil))) (aCons (eB (oP pAdd) (eK (.int 1)) (eCo B__law_draw 0 (aCons (eV 3) aNil))) aNil))) (aCons (eN pTup (aCons (eB (oP pAdd) (eK (.int 1)) (eCo B__law_draw 0 (aCons (eK (.int 20)) aNil))) (aCons (eB (oP pAdd) (eK (.int 1)) (eCo B__law_draw 0 (aCons (eK (.int 6)) aNil))) aNil))) aNil))))
theorem size_big : 1000000 < sizeLine := by rw [sizeLine_eq]; omega
theorem lapP_ok {n : Nat} {d : D} {w : Int} {ps : List Part} (h : Pen n d) (hn : n ≤ 2 ^ 10) (hw : w = 9 ∨ w = 999) (hl : ps.length ≤ 100) (x1 y4 y5 y6 : Option D) :
    ∃ (p : Part) (d' : D), lapP [some d, x1, some (.lst (ps.map pD)), some (.int w), y4, y5, y6] = .ok .nx [some d', x1, some (.lst ((ps ++ [p]).map pD)), some (.int w), y4, y5, y6] ∧ POk 999 p ∧ Pen (n + 4) d' := by
  obtain ⟨a, d1, e1, a0, a1, p1⟩ := draw_ok (m := w) h (by omega) (by omega) (by omega)
  obtain ⟨b, d2, e2, b0, b1, p2⟩ := draw_ok (m := w) p1 (by omega) (by omega) (by omega)
  obtain ⟨c, d3, e3, c0, c1, p3⟩ := draw_ok (m := 20) p2 (by omega) (by omega) (by omega)
  obtain ⟨f, d4, e4, f0, f1, p4⟩ := draw_ok (m := 6) p3 (by omega) (by omega) (by omega)
  have hs : ps.length < sizeLine := Nat.lt_trans (by omega) size_big
  refine ⟨⟨1 + a, 1 + b, 1 + c, 1 + f⟩, d4, ?_, ⟨by show 0 < 1 + a; omega, by show 1 + a ≤ 999; omega, by show 0 < 1 + b; omega, by show 1 + b ≤ 999; omega, by show 0 < 1 + c; omega, by show 1 + c ≤ 20; omega, by show 0 < 1 + f; omega, by show 1 + f ≤ 6; omega⟩, p4⟩
  simp [lapP, e1, e2, e3, e4, hs, pD, big]
theorem parts_ok {n : Nat} {d : D} {m : Int} (h : Pen n d) (hn : n ≤ 2 ^ 9) (hm : 0 < m) (hm7 : m ≤ 7) :
    ∃ (ps : List Part) (d' : D), B__law_parts [d, .int m] = .ok (.lst (ps.map pD)) [some d', none] ∧ 1 ≤ ps.length ∧ ps.length ≤ m.toNat ∧ (∀ p ∈ ps, POk 999 p) ∧ Pen (n + 31) d' := by
  obtain ⟨i, x, d1, ei, e1, p1⟩ := pick_ok (l := [.int 9, .int 9, .int 999]) h (by omega) (by simp) (by simp)
  obtain ⟨w, rfl, hw⟩ : ∃ w, x = .int w ∧ (w = 9 ∨ w = 999) := by
    match i, ei with
    | 0, ei => simp at ei; exact ⟨9, ei.symm, .inl rfl⟩
    | 1, ei => simp at ei; exact ⟨9, ei.symm, .inl rfl⟩
    | 2, ei => simp at ei; exact ⟨999, ei.symm, .inr rfl⟩
    | i + 3, ei => simp at ei
  obtain ⟨k0, d2, e2, k1, k2, p2⟩ := draw_ok (m := m) p1 (by omega) (by omega) (by omega)
  obtain ⟨k, hk⟩ : ∃ k : Nat, k0 = k := ⟨k0.toNat, by omega⟩
  have er : pRng [.int (1 + k0)] = some ((List.range (1 + k)).map fun i => D.int (i : Nat)) := by
    have := pRng_nat (1 + k) (by omega)
    rwa [show ((1 + k : Nat) : Int) = 1 + k0 by omega] at this
  obtain ⟨r3, ⟨ps, y4, d3, rfl, l3, a3, p3⟩, e3⟩ := for_map (g := gN 4) (b := lapP) (fun i : Nat => D.int (i : Nat)) (fun pre r => ∃ (ps : List Part) (y4 : Option D) (d' : D), r = [some d', some (.int m), some (.lst (ps.map pD)), some (.int w), y4, none, none] ∧ ps.length = pre.length ∧ (∀ p ∈ ps, POk 999 p) ∧ Pen (n + 2 + 4 * pre.length) d') (List.range (1 + k))
    (fun pre x post e r ⟨ps, y4, d', er, l, a, p⟩ => by
      have hl : pre.length < 1 + k := by
        have := congrArg List.length e
        simp at this
        omega
      obtain ⟨q, d4, e4, q4, p4⟩ := lapP_ok (ps := ps) p (by omega) hw (by omega) (some (.int m)) (some (.int x)) none none
      subst er
      exact ⟨_, _, rfl, e4, ps ++ [q], _, d4, rfl, by simp [l], by
        intro p' m'
        rcases List.mem_append.mp m' with m' | m'
        · exact a p' m'
        · simp at m'; rw [m']; exact q4, by rw [List.length_append]; exact p4.mono (by simp; omega)⟩) (List.range (1 + k)) [] rfl [some d2, some (.int m), some (.lst []), some (.int w), none, none, none] ⟨[], none, d2, rfl, rfl, by simp, p2.mono (by simp)⟩
  have hlen : ps.length = 1 + k := by rw [l3]; simp
  obtain ⟨f, d4, e4, f0, f1, p4⟩ := draw_ok (m := 4) p3 (by rw [List.length_range]; omega) (by omega) (by omega)
  have eb : b__law_parts = (sSeq (sParF 2 3 (eCo B__law_pick 0 (aCons (eN pLst (aCons (eK (.int 9)) (aCons (eK (.int 9)) (aCons (eK (.int 999)) aNil)))) aNil))) (sSeq (sFor (itN pRng (aCons (eB (oP pAdd) (eK (.int 1)) (eCo B__law_draw 0 (aCons (eV 1) aNil))) aNil)) (gN 4) lapP) (sSeq (sIf (tV (eB (oP pEq) (eCo B__law_draw 0 (aCons (eK (.int 4)) aNil)) (eK (.int 0)))) (sRet (eLc [5, 6] (itL (eV 2)) (gT [(gN 5), (gN 6)]) tY (eN pTup (aCons (eB (oP pIx) (eB (oP pIx) (eV 2) (eK (.int 0))) (eK (.int 0))) (aCons (eV 6) aNil))))) sNil) (sRet (eV 2))))) := rfl
  by_cases hf : f = 0
  · subst hf
    match ps, hlen, a3, e3, e4 with
    | [], hlen, _, _, _ =>
      simp at hlen
      omega
    | p0 :: rest, hlen, a3, e3, e4 =>
      obtain ⟨r5, ⟨y5, y6, rfl⟩, e5⟩ := lc_map (vs := [5, 6]) (g := gT [(gN 5), (gN 6)]) (t := tY) (f := eN pTup (aCons (eB (oP pIx) (eB (oP pIx) (eV 2) (eK (.int 0))) (eK (.int 0))) (aCons (eV 6) aNil))) pD (fun p => pD ⟨p0.a, p0.b, p.c, p.d⟩)
        (fun r => ∃ y5 y6, r = [some d4, some (.int m), some (.lst (pD p0 :: rest.map pD)), some (.int w), y4, y5, y6]) (p0 :: rest) (fun p _ r ⟨y5, y6, er⟩ => by
          subst er
          exact ⟨[some d4, some (.int m), some (.lst (pD p0 :: rest.map pD)), some (.int w), y4, some (.tup [.int p.a, .int p.b]), some (.tup [.int p.c, .int p.d])], [some d4, some (.int m), some (.lst (pD p0 :: rest.map pD)), some (.int w), y4, some (.tup [.int p.a, .int p.b]), some (.tup [.int p.c, .int p.d])], by simp [wipeE, pD, itemsOf, gTs], rfl, by
            simp [pD, big], _, _, rfl⟩) _ ⟨none, none, rfl⟩
      refine ⟨(p0 :: rest).map (fun p => ⟨p0.a, p0.b, p.c, p.d⟩), d4, ?_, by simp, by rw [List.length_map, hlen]; omega, ?_, p4.mono (by rw [List.length_range]; omega)⟩
      · rw [List.map_cons] at e5 e3
        have hb : rest.length + 1 ≤ big := by
          have : rest.length + 1 = 1 + k := by simpa using hlen
          unfold big; omega
        rw [B__law_parts, eb]
        simp [mkB, e1, e2, er, e3, e4, itemsOf, hb, e5, lcOut, backE, show 3 ≤ big by unfold big; omega, Function.comp_def]
      · intro q hq
        obtain ⟨p, hp, rfl⟩ := List.mem_map.mp hq
        have o0 := a3 p0 (by simp)
        have o := a3 p hp
        exact ⟨o0.a0, o0.a1, o0.b0, o0.b1, o.c0, o.c1, o.d0, o.d1⟩
  · refine ⟨ps, d4, ?_, by omega, by omega, a3, p4.mono (by rw [List.length_range]; omega)⟩
    rw [B__law_parts, eb]
    simp [mkB, e1, e2, er, e3, e4, hf, show 3 ≤ big by unfold big; omega]
end Kw

namespace Kw
open PySem PySem.Spec PyProof.Rows L2 Z
abbrev QP := Rat × Rat
def sA : List QP → Rat
  | [] => 0
  | q :: l => q.2 + sA l
def sR : List QP → Rat
  | [] => 0
  | q :: l => q.2 / q.1 + sR l
def sL : List QP → Rat
  | [] => 0
  | q :: l => q.2 * q.1 + sL l
theorem sA_app (l m : List QP) : sA (l ++ m) = sA l + sA m := by
  induction l with
  | nil => simp [sA, Rat.zero_add]
  | cons q l ih => simp [sA, ih, Rat.add_assoc]
theorem sR_app (l m : List QP) : sR (l ++ m) = sR l + sR m := by
  induction l with
  | nil => simp [sR, Rat.zero_add]
  | cons q l ih => simp [sR, ih, Rat.add_assoc]
theorem sL_app (l m : List QP) : sL (l ++ m) = sL l + sL m := by
  induction l with
  | nil => simp [sL, Rat.zero_add]
  | cons q l ih => simp [sL, ih, Rat.add_assoc]
abbrev T3 := Rat × Rat × Rat
def lt (qs : List QP) : T3 := (sA qs, sR qs, sL qs)
def lig (qs : List QP) : List T3 := (List.range (qs.length + 1)).map fun i => lt (qs.take i)
theorem lig_snoc (pre : List QP) (x : QP) : lig (pre ++ [x]) = lig pre ++ [lt (pre ++ [x])] := by
  unfold lig
  rw [List.length_append, List.length_singleton, List.range_succ, List.map_append]
  congr 1
  · apply List.map_congr_left
    intro i hi
    have := List.mem_range.mp hi
    rw [List.take_append_of_le_length (by omega)]
  · rw [List.map_singleton, List.take_of_length_le (by simp)]
theorem lig_last (pre : List QP) : lig pre = (List.range pre.length).map (fun i => lt (pre.take i)) ++ [lt pre] := by
  unfold lig
  rw [List.range_succ, List.map_append]
  simp
theorem lig_get {qs : List QP} {i : Nat} (h : i ≤ qs.length) : (lig qs)[i]? = some (lt (qs.take i)) := by
  unfold lig
  rw [List.getElem?_map, List.getElem?_range (by omega)]
  rfl
@[simp] theorem lig_len (qs : List QP) : (lig qs).length = qs.length + 1 := by simp [lig]
def t3 (x : T3) : D := .tup [rt x.1, rt x.2.1, rt x.2.2]
def pairD (q : QP) : D := .tup [rt q.1, rt q.2]
theorem inv_eq {q : Rat} (h : 0 < q) : q⁻¹ = Rat.divInt q.den q.num := Rat.inv_def q
theorem over_eq {p q : Rat} : p / q = Rat.divInt (p.num * q.den) (p.den * q.num) := by
  rw [Rat.div_def, Rat.inv_def]
  have h := Rat.divInt_mul_divInt p.num q.den (d₁ := p.den) (d₂ := q.num)
  rwa [divInt_self] at h
theorem Bd.div2 {j k : Nat} {p q : Rat} (hp : Bd j p) (hq : Bd k q) (h : 0 < q) : Bd (j + k) (p / q) := by
  rw [over_eq]
  have h1 : (q.den : Int).natAbs < 2 ^ k := by simpa using hq.2
  have h2 : (p.den : Int).natAbs < 2 ^ j := by simpa using hp.2
  exact Bd.of (Int.mul_pos (den_pos p) ((nm_pos q).mpr h)) (abs_mul_lt hp.1 h1) (abs_mul_lt h2 hq.1)
theorem over_ok {k : Nat} {p q : Rat} (hp : Bd k p) (hq : Bd k q) (h : 0 < q) (h0 : 0 < k) (hk : k ≤ 3490) : B_Ratio_over [rt p, rt q] = .ok (rt (p / q)) [none, none] := by
  have hpd : (p.den : Int).natAbs < 2 ^ k := by simpa using hp.2
  have hqd : (q.den : Int).natAbs < 2 ^ k := by simpa using hq.2
  have hn := (nm_pos q).mpr h
  have z := B_ratio (n := p.num * q.den) (d := p.den * q.num) (Int.mul_pos (den_pos p) hn) (Nat.lt_of_lt_of_le (abs_mul_lt hpd hq.1) (Nat.pow_le_pow_right (by omega) (by omega)))
  rw [← over_eq] at z
  have m1 := pMul_int (mulB_both hp.1 hqd h0 h0 (by omega) (by omega))
  have m2 := pMul_int (mulB_both hpd hq.1 h0 h0 (by omega) (by omega))
  have f := from_rt q (.str "other")
  have hne : ¬ q.num = 0 := by omega
  simp [B_Ratio_over, mkB, b_Ratio_over, f, hne, m1, m2, z]
structure QOk (m : Nat) (q : QP) : Prop where
  p1 : 0 < q.1
  p2 : 0 ≤ q.2
  b1 : Bd m q.1
  b2 : Bd m q.2
/-- the sums of every beginning stay small -/
def PB (k : Nat) (qs : List QP) : Prop := ∀ i, Bd k (sA (qs.take i)) ∧ Bd k (sR (qs.take i)) ∧ Bd k (sL (qs.take i))
theorem new0' : B_Ratio___init__ [.ob 0 [], .int 0, .int 1] = .ok .non [some (rt 0), none, none] := new0
def lapL : M Fl := (sSeq (sTg (gT [(gN 4), (gN 5), (gN 6)]) (eIxO 1 (eU (oU pNeg) (eK (.int 1))))) (sApp 1 (eN pTup (aCons (eB (oW [(0, B_Ratio___add__)] ["int"] [0, 1] pAdd) (eV 4) (eV 3)) (aCons (eB (oW [(0, B_Ratio___add__)] ["int"] [0, 1] pAdd) (eV 5) (eMd [(0, B_Ratio_over)] [] (eV 3) (aCons (eV 2) aNil))) (aCons (eB (oW [(0, B_Ratio___add__)] ["int"] [0, 1] pAdd) (eV 6) (eB (oW [(0, B_Ratio___mul__)] ["int"] [0, 1] pMul) (eV 3) (eV 2))) aNil))))))
theorem lapL_ok {m k : Nat} {pre : List QP} {q : QP} (hq : QOk m q) (hm : 2 * m ≤ k) (h0 : 0 < m) (hk : k ≤ 3490) (ha : Bd k (sA pre)) (hr : Bd k (sR pre)) (hl : Bd k (sL pre)) (hs : pre.length ≤ 100) (x0 y4 y5 y6 : Option D) :
    ∃ z4 z5 z6, lapL [x0, some (.lst ((lig pre).map t3)), some (rt q.1), some (rt q.2), y4, y5, y6] = .ok .nx [x0, some (.lst ((lig (pre ++ [q])).map t3)), some (rt q.1), some (rt q.2), z4, z5, z6] := by
  have e1 := over_ok hq.b2 hq.b1 hq.p1 h0 (by omega)
  have e2 := mul_ok hq.b2 hq.b1 h0 (by omega)
  have e3 := add_ok ha (hq.b2.mono (by omega)) (by omega) hk
  have e4 := add_ok hr ((hq.b2.div2 hq.b1 hq.p1).mono (by omega)) (by omega) hk
  have e5 := add_ok hl ((hq.b2.mul2 hq.b1).mono (by omega)) (by omega) hk
  have hz : pre.length + 1 < sizeLine := Nat.lt_trans (by omega) size_big
  have en : lt (pre ++ [q]) = (sA pre + q.2, sR pre + q.2 / q.1, sL pre + q.2 * q.1) := by
    simp [lt, sA_app, sR_app, sL_app, sA, sR, sL, Rat.add_zero]
  refine ⟨some (rt (sA pre)), some (rt (sR pre)), some (rt (sL pre)), ?_⟩
  rw [lig_snoc, lig_last pre, en]
  simp [lapL, t3, lt, itemsOf, gTs, oW, rk, e1, e2, e3, e4, e5, hz, show 3 ≤ big by unfold big; omega]
theorem lights_ok {m k : Nat} {qs : List QP} {x0 : D} (hx : itemsOf x0 = some (qs.map pairD)) (hq : ∀ q ∈ qs, QOk m q) (hp : PB k qs) (hm : 2 * m ≤ k) (h0 : 0 < m) (hk : k ≤ 3490) (hs : qs.length ≤ 100) :
    B_lights_along [x0] = .ok (.lst ((lig qs).map t3)) [none] := by
  obtain ⟨r3, ⟨y2, y3, y4, y5, y6, rfl⟩, e3⟩ := for_map (g := gT [(gN 2), (gN 3)]) (b := lapL) pairD (fun pre r => ∃ y2 y3 y4 y5 y6, r = [some x0, some (.lst ((lig pre).map t3)), y2, y3, y4, y5, y6]) qs
    (fun pre x post e r ⟨y2, y3, y4, y5, y6, er⟩ => by
      have hl := congrArg List.length e
      simp at hl
      have et : qs.take pre.length = pre := by rw [e]; simp
      have hb := hp pre.length
      rw [et] at hb
      obtain ⟨z4, z5, z6, el⟩ := lapL_ok (pre := pre) (hq x (by rw [e]; simp)) hm h0 hk hb.1 hb.2.1 hb.2.2 (by omega) (some x0) y4 y5 y6
      subst er
      exact ⟨_, _, by simp [pairD, itemsOf, gTs], el, _, _, _, _, _, rfl⟩) qs [] rfl [some x0, some (.lst ((lig []).map t3)), none, none, none, none, none] ⟨none, none, none, none, none, rfl⟩
  have e0 : (lig []).map t3 = [.tup [rt 0, rt 0, rt 0]] := rfl
  have eb : b_lights_along = (sSeq (sAsF 1 (eN pLst (aCons (eN pTup (aCons (eNd 0 B_Ratio___init__ [.int (1)] (aCons (eK (.int 0)) aNil)) (aCons (eNd 0 B_Ratio___init__ [.int (1)] (aCons (eK (.int 0)) aNil)) (aCons (eNd 0 B_Ratio___init__ [.int (1)] (aCons (eK (.int 0)) aNil)) aNil)))) aNil))) (sSeq (sFor (itL (eV 0)) (gT [(gN 2), (gN 3)]) lapL) (sRet (eV 1)))) := rfl
  rw [e0] at e3
  rw [B_lights_along, eb]
  simp [mkB, new0, hx, e3, show 3 ≤ big by unfold big; omega, show 1 ≤ big by unfold big; omega]
end Kw

namespace Kw
open PySem PySem.Spec PyProof.Rows L2 Z
theorem summed1 {k : Nat} {y : Rat} (hy : Bd k y) (h0 : 0 < k) (hk : k ≤ 3490) : B_summed [.lst [rt y]] = .ok (rt (0 + y)) [none] := by
  have ar := are_ok (xs := [y]) (by simp) (by simp)
  have e1 := add_ok (Bd.zero h0) hy h0 hk
  simp at ar
  simp only [Rat.zero_add] at e1 ⊢
  simp [B_summed, mkB, b_summed, itemsOf, ar, new0, forGo, oW, rk, e1]
theorem dot1 (t x : Rat) : dot t [x] t [x] = t * t - (0 + x * x) := rfl
theorem product1 {k : Nat} {t x : Rat} {l m : List D} (ht : Bd k t) (hx : Bd k x) (h0 : 0 < k) (hk : k ≤ 1740) :
    B_product_at [.ob 1 (rt t :: .tup [rt x] :: l), .ob 1 (rt t :: .tup [rt x] :: m)] = .ok (rt (dot t [x] t [x])) [none, none] := by
  have m0 := mul_ok ht ht h0 (by omega)
  have m1 := mul_ok hx hx h0 (by omega)
  have b0 := ht.mul2 ht
  have b1 := hx.mul2 hx
  have sm := summed1 b1 (by omega) (by omega)
  have b2 : Bd (k + k + 2) (0 + x * x) := by
    have := (Bd.zero (k := 1) (by omega)).add2 b1
    exact this.mono (by omega)
  have d0 := sub_ok (b0.mono (by omega : k + k ≤ k + k + 2)) b2 (by omega) (by omega)
  rw [dot1]
  simp only [Rat.zero_add] at sm d0 ⊢
  simp [B_product_at, mkB, b_product_at, oW, rk, m0, m1, pZip, itemsOf, isTupD, zipD, big, lcGo, lcOut, wipeE, backE, gTs, sm, d0]
theorem step1 {k : Nat} {t x : Rat} (ht : Bd k t) (hx : Bd k x) (h0 : 0 < k) (hk : k ≤ 1740) : B_Step___init__ [.ob 1 [], rt t, .lst [rt x]] = .ok .non [some (stp t [x]), none, none] := by
  have ar := are_ok (xs := [x]) (by simp) (by simp)
  have pr := product1 (l := [.int 1]) (m := [.int 1]) ht hx h0 hk
  have kd := kind_ok t (dot t [x] t [x])
  simp only [List.map_cons, List.map_nil] at ar
  generalize hd : dot t [x] t [x] = dd at pr kd
  simp [B_Step___init__, mkB, b_Step___init__, ar, onBl, pLen, itemsOf, big, lcGo, lcOut, wipeE, backE, pTuple, pr, kd, sl, hd]
@[simp] theorem need_step_ok (t : Rat) (xs : List Rat) (d : D) : B_need_step [stp t xs, d] = .ok .non [none, none] := by
  simp [B_need_step, mkB, b_need_step, kO]
theorem need_axes_ok {t u : Rat} {xs ys : List Rat} (e : ys.length = xs.length) : B_need_axes [stp t xs, stp u ys] = .ok .non [none, none] := by
  simp [B_need_axes, mkB, b_need_axes, e]
theorem step_add1 {k : Nat} {t u x y : Rat} (ht : Bd k t) (hu : Bd k u) (hx : Bd k x) (hy : Bd k y) (h0 : 0 < k) (hk : k ≤ 860) : B_Step___add__ [stp t [x], stp u [y]] = .ok (stp (t + u) [x + y]) [none, none] := by
  have a0 := add_ok ht hu h0 (by omega)
  have a1 := add_ok hx hy h0 (by omega)
  have st := step1 (ht.add2 hu) (hx.add2 hy) (by omega) (by omega)
  have na := need_axes_ok (t := t) (u := u) (xs := [x]) (ys := [y]) rfl
  simp [B_Step___add__, mkB, b_Step___add__, na, oW, rk, a0, a1, pZip, itemsOf, isTupD, zipD, big, lcGo, lcOut, wipeE, backE, gTs, st]
theorem step_neg1 {k : Nat} {t x : Rat} (ht : Bd k t) (hx : Bd k x) (h0 : 0 < k) (hk : k ≤ 1740) : B_Step___neg__ [stp t [x]] = .ok (stp (-t) [-x]) [none] := by
  have a0 := neg_ok ht (by omega)
  have a1 := neg_ok hx (by omega)
  have st := step1 ht.neg hx.neg h0 hk
  simp [B_Step___neg__, mkB, b_Step___neg__, oC1, a0, a1, itemsOf, big, lcGo, lcOut, wipeE, backE, st]
theorem step_sub1 {k : Nat} {t u x y : Rat} (ht : Bd k t) (hu : Bd k u) (hx : Bd k x) (hy : Bd k y) (h0 : 0 < k) (hk : k ≤ 860) : B_Step___sub__ [stp t [x], stp u [y]] = .ok (stp (t - u) [x - y]) [none, none] := by
  have n := step_neg1 hu hy h0 (by omega)
  have a := step_add1 ht hu.neg hx hy.neg h0 hk
  rw [← Rat.sub_eq_add_neg, ← Rat.sub_eq_add_neg] at a
  simp [B_Step___sub__, mkB, b_Step___sub__, oW, oC1, rk, n, a]
theorem pEq_obs (q p : Rat) (l m : List D) : pEq (.tup (rt q :: l)) (.tup (rt p :: m)) = none := by
  simp [pEq, pEqB, toP, toPs]
theorem step_eq1 (t x : Rat) : B_Step___eq__ [stp t [x], stp t [x]] = .ok (.bl true) [none, none] := by
  have e0 := eq_ok t t
  have e1 := eq_ok x x
  simp [B_Step___eq__, mkB, b_Step___eq__, kO, oET, oW, rk, e0, pEq_obs, allT, eqI, okB, isT, e1]
def hf : Rat := Rat.divInt 1 2
theorem hf_eq : hf = 1 / 2 := by decide +kernel
theorem hf_bd : Bd 2 hf := ⟨by decide +kernel, by decide +kernel⟩
theorem lit_ok {k : Nat} {r l : Rat} (hr : Bd k r) (hl : Bd k l) (h0 : 0 < k) (hk : k ≤ 868) : B_lit_spot [rt r, rt l] = .ok (stp ((r + l) * hf) [(l - r) * hf]) [none, none] := by
  have n := B_ratio (n := 1) (d := 2) (by omega) (by decide)
  have a0 := add_ok hr hl h0 (by omega)
  have a1 := sub_ok hl hr h0 (by omega)
  have b0 := hr.add2 hl
  have b1 := hl.sub2 hr
  have m0 := mul_ok b0 (hf_bd.mono (by omega)) (by omega) (by omega)
  have m1 := mul_ok b1 (hf_bd.mono (by omega)) (by omega) (by omega)
  have st := step1 (b0.mul2 hf_bd) (b1.mul2 hf_bd) (by omega) (by omega)
  have eh : Rat.divInt 1 2 = hf := rfl
  rw [eh] at n
  simp [B_lit_spot, mkB, b_lit_spot, n, oW, rk, a0, a1, m0, m1, big, st]
def spotD (x : T3) : D := stp ((x.2.1 + x.2.2) * hf) [(x.2.2 - x.2.1) * hf]
def tl (qs : List QP) : List D := [.tup (qs.map pairD), .tup ((lig qs).map spotD), rt (sA qs), spotD (lt qs)]
abbrev tour (qs : List QP) : D := .ob 2 (tl qs)
@[simp] theorem tl_0 (qs : List QP) : (tl qs)[0]? = some (.tup (qs.map pairD)) := rfl
@[simp] theorem tl_1 (qs : List QP) : (tl qs)[1]? = some (.tup ((lig qs).map spotD)) := rfl
@[simp] theorem tl_2 (qs : List QP) : (tl qs)[2]? = some (rt (sA qs)) := rfl
@[simp] theorem tl_3 (qs : List QP) : (tl qs)[3]? = some (spotD (lt qs)) := rfl
theorem it_lst (l : List D) : itemsOf (.lst l) = some l := rfl
theorem it_tup (l : List D) : itemsOf (.tup l) = some l := rfl
theorem is_part_ok {q : QP} (h1 : 0 < q.1) (h2 : 0 < q.2) : B_is_part [pairD q] = .ok (.bl true) [none] := by
  have g1 := (nm_pos q.1).mpr h1
  have g2 := (nm_pos q.2).mpr h2
  have li : B_is_listed [pairD q] = .ok (.bl true) [none] := by
    simp [B_is_listed, mkB, b_is_listed, kAny, kT, tyN, pairD]
  have s1 := sign_ok q.1
  have s2 := sign_ok q.2
  rw [Int.sign_eq_one_of_pos g1] at s1
  rw [Int.sign_eq_one_of_pos g2] at s2
  simp only [pairD] at li ⊢
  simp [B_is_part, mkB, b_is_part, li, pLen_tup, itemsOf, big, lcGo, lcOut, wipeE, backE, s1, s2, pAll, lisOf, toBls]
theorem all_true (n : Nat) : pAll [.lst (List.replicate n (.bl true))] = some (.bl true) := by
  have := pAll_lst (List.replicate n true)
  simpa using this
theorem tour_ok {m k : Nat} {qs : List QP} {x1 : D} (hx : itemsOf x1 = some (qs.map pairD)) (hli : B_is_listed [x1] = .ok (.bl true) [none]) (hle : pLen [x1] = some (.int (qs.length : Nat))) (hq : ∀ q ∈ qs, QOk m q) (hpos : ∀ q ∈ qs, 0 < q.2) (hp : PB k qs) (hm : 2 * m ≤ k) (h0 : 0 < m) (hk : k ≤ 868) (h1 : 1 ≤ qs.length) (h12 : qs.length ≤ 12) :
    B_Tour___init__ [.ob 2 [], x1] = .ok .non [some (tour qs), none] := by
  have hb : qs.length ≤ big := by unfold big; omega
  have hb2 : qs.length + 1 ≤ big := by unfold big; omega
  obtain ⟨r1, ⟨y3, rfl⟩, e1⟩ := lc_map (vs := [3]) (g := gN 3) (t := tY) (f := eCd B_is_part [] (aCons (eV 3) aNil)) pairD (fun _ => D.bl true) (fun r => ∃ y3, r = [some (.ob 2 []), some x1, none, y3, none, none, none]) qs (fun q hm r ⟨y3, er⟩ => by
    subst er
    have e := is_part_ok (hq q hm).p1 (hpos q hm)
    refine ⟨[some (.ob 2 []), some x1, none, some (pairD q), none, none, none], [some (.ob 2 []), some x1, none, some (pairD q), none, none, none], by simp [wipeE], rfl, by simp [e], _, rfl⟩) _ ⟨none, rfl⟩
  obtain ⟨r2, ⟨z3, rfl⟩, e2⟩ := lc_map (vs := [3]) (g := gN 3) (t := tY) (f := eN pTup (aCons (eCd B_Ratio_of [] (aCons (eB (oP pIx) (eV 3) (eK (.int 0))) aNil)) (aCons (eCd B_Ratio_of [] (aCons (eB (oP pIx) (eV 3) (eK (.int 1))) aNil)) aNil))) pairD pairD (fun r => ∃ y3, r = [some (.ob 2 []), some x1, none, y3, none, none, none]) qs (fun q hm r ⟨y3, er⟩ => by
    subst er
    refine ⟨[some (.ob 2 []), some x1, none, some (pairD q), none, none, none], [some (.ob 2 []), some x1, none, some (pairD q), none, none, none], by simp [wipeE], rfl, by simp [pairD, big], _, rfl⟩) _ ⟨none, rfl⟩
  have el := lights_ok (x0 := .tup (qs.map pairD)) rfl hq hp hm h0 (by omega) (by omega)
  obtain ⟨r3, ⟨u4, u5, u6, rfl⟩, e3⟩ := lc_map (vs := [4, 5, 6]) (g := gT [(gN 4), (gN 5), (gN 6)]) (t := tY) (f := eCd B_lit_spot [] (aCons (eV 5) (aCons (eV 6) aNil))) t3 spotD (fun r => ∃ y4 y5 y6, r = [some (.ob 2 [.tup (qs.map pairD)]), some x1, some (.lst ((lig qs).map t3)), none, y4, y5, y6]) (lig qs) (fun q hm r ⟨y4, y5, y6, er⟩ => by
    subst er
    obtain ⟨i, hi, rfl⟩ := List.mem_map.mp hm
    have b := hp i
    have e := lit_ok b.2.1 b.2.2 (by omega) hk
    refine ⟨[some (.ob 2 [.tup (qs.map pairD)]), some x1, some (.lst ((lig qs).map t3)), none, some (rt (sA (qs.take i))), some (rt (sR (qs.take i))), some (rt (sL (qs.take i)))], [some (.ob 2 [.tup (qs.map pairD)]), some x1, some (.lst ((lig qs).map t3)), none, some (rt (sA (qs.take i))), some (rt (sR (qs.take i))), some (rt (sL (qs.take i)))], by simp [wipeE, t3, lt, itemsOf, gTs], rfl, by simp [e, spotD, lt], _, _, _, rfl⟩) _ ⟨none, none, none, rfl⟩
  have hn : ¬ ((qs.length : Nat) : Int) = 0 := by omega
  have hg : ¬ (12 : Int) < ((qs.length : Nat) : Int) := by omega
  have hne : qs ≠ [] := fun z => by rw [z] at h1; simp at h1
  have hg' : ¬ 12 < qs.length := by omega
  have em : qs.map (fun _ => D.bl true) = List.replicate qs.length (.bl true) := List.map_const' ..
  rw [em] at e1
  have at1 := all_true qs.length
  have la : pIx (.lst ((lig qs).map t3)) (.int (-1)) = some (t3 (lt qs)) := by
    rw [lig_last, List.map_append]
    exact ix_last_l _ _
  have ls : pIx (.tup ((lig qs).map spotD)) (.int (-1)) = some (spotD (lt qs)) := by
    rw [lig_last, List.map_append]
    exact ix_last_t _ _
  have i0 : pIx (t3 (lt qs)) (.int 0) = some (rt (sA qs)) := ix_tup_0 _ _
  generalize hP : qs.map pairD = P at *
  generalize hS : (lig qs).map spotD = S at *
  have hlP : P.length = qs.length := by rw [← hP]; simp
  have hlL : ((lig qs).map t3).length = qs.length + 1 := by simp
  generalize hL : (lig qs).map t3 = L at *
  simp [B_Tour___init__, mkB, b_Tour___init__, hx, hli, hle, hlP, hlL, hb, hb2, e1, at1, hn, hg, lcOut, backE, onBl, pTuple, e2, el, it_lst, it_tup, e3, la, ls, i0, tl, hP, hS, hne, hg']
end Kw

namespace Kw
open PySem PySem.Spec PyProof.Rows L2 Z
abbrev Fr := Int × Int
def frD (f : Fr) : D := .tup [.int f.1, .int f.2]
def fv (f : Fr) : Rat := Rat.divInt f.1 f.2
structure Fb (k : Nat) (f : Fr) : Prop where
  pos : 0 < f.2
  n : f.1.natAbs < 2 ^ k
  d : f.2.natAbs < 2 ^ k
theorem Fb.bd {k : Nat} {f : Fr} (h : Fb k f) : Bd k (fv f) := Bd.of h.pos h.n h.d
theorem Fb.mono {k m : Nat} {f : Fr} (h : Fb k f) (hk : k ≤ m) : Fb m f := ⟨h.pos, Nat.lt_of_lt_of_le h.n (Nat.pow_le_pow_right (by omega) hk), Nat.lt_of_lt_of_le h.d (Nat.pow_le_pow_right (by omega) hk)⟩
theorem Bd.of_fv {k : Nat} {f : Fr} (h : Fb k f) : Bd k (fv f) := h.bd
def plus (f g : Fr) : Fr := if f.2 = g.2 then (f.1 + g.1, f.2) else (f.1 * g.2 + g.1 * f.2, f.2 * g.2)
theorem fv_plus {f g : Fr} (hf : 0 < f.2) (hg : 0 < g.2) : fv (plus f g) = fv f + fv g := by
  have h1 : f.2 ≠ 0 := by omega
  have h2 : g.2 ≠ 0 := by omega
  unfold fv plus
  rw [Rat.divInt_add_divInt _ _ h1 h2]
  split
  · rename_i e
    rw [e, ← Int.add_mul]
    exact (Rat.divInt_mul_right h2).symm
  · rfl
theorem plus_pos {f g : Fr} (hf : 0 < f.2) (hg : 0 < g.2) : 0 < (plus f g).2 := by
  unfold plus
  split
  · exact hf
  · exact Int.mul_pos hf hg
theorem Fb.plus {j k : Nat} {f g : Fr} (hf : Fb j f) (hg : Fb k g) : Fb (j + k + 1) (plus f g) := by
  have hp : ∀ {a b : Nat}, a ≤ b → 2 ^ a ≤ 2 ^ b := fun h => Nat.pow_le_pow_right (by omega) h
  refine ⟨plus_pos hf.pos hg.pos, ?_, ?_⟩
  · unfold Kw.plus
    split
    · have := abs_add_lt (Nat.lt_of_lt_of_le hf.n (hp (by omega : j ≤ j + k))) (Nat.lt_of_lt_of_le hg.n (hp (by omega : k ≤ j + k)))
      exact this
    · have a := abs_mul_lt hf.n hg.d
      have b := abs_mul_lt hg.n hf.d
      rw [Nat.add_comm k j] at b
      exact abs_add_lt a b
  · unfold Kw.plus
    split
    · exact Nat.lt_of_lt_of_le hf.d (hp (by omega))
    · exact Nat.lt_of_lt_of_le (abs_mul_lt hf.d hg.d) (hp (by omega))
theorem plus_ok {k : Nat} {f g : Fr} (hf : Fb k f) (hg : Fb k g) (h0 : 0 < k) (hk : k ≤ 400000) : B__law_plus [frD f, frD g] = .ok (frD (plus f g)) [none, none] := by
  have m1 := pMul_int (mulB_both hf.n hg.d h0 h0 hk hk)
  have m2 := pMul_int (mulB_both hg.n hf.d h0 h0 hk hk)
  have m3 := pMul_int (mulB_both hf.d hg.d h0 h0 hk hk)
  by_cases h : f.2 = g.2
  · simp [B__law_plus, mkB, b__law_plus, frD, plus, h, show 2 ≤ big by unfold big; omega]
  · simp [B__law_plus, mkB, b__law_plus, frD, plus, h, m1, m2, m3, show 2 ≤ big by unfold big; omega]
abbrev F3 := Fr × Fr × Fr
def f3D (x : F3) : D := .tup [frD x.1, frD x.2.1, frD x.2.2]
def fstep (x : F3) (p : Part) : F3 := (plus x.1 (p.c, p.d), plus x.2.1 (p.c * p.b, p.d * p.a), plus x.2.2 (p.c * p.a, p.d * p.b))
def fl (ps : List Part) : F3 := ps.foldl fstep ((0, 1), (0, 1), (0, 1))
def flig (ps : List Part) : List F3 := (List.range (ps.length + 1)).map fun i => fl (ps.take i)
theorem fl_snoc (pre : List Part) (p : Part) : fl (pre ++ [p]) = fstep (fl pre) p := by simp [fl]
theorem flig_snoc (pre : List Part) (x : Part) : flig (pre ++ [x]) = flig pre ++ [fl (pre ++ [x])] := by
  unfold flig
  rw [List.length_append, List.length_singleton, List.range_succ, List.map_append]
  congr 1
  · apply List.map_congr_left
    intro i hi
    have := List.mem_range.mp hi
    rw [List.take_append_of_le_length (by omega)]
  · rw [List.map_singleton, List.take_of_length_le (by simp)]
theorem flig_last (pre : List Part) : flig pre = (List.range pre.length).map (fun i => fl (pre.take i)) ++ [fl pre] := by
  unfold flig
  rw [List.range_succ, List.map_append]
  simp
theorem flig_get {qs : List Part} {i : Nat} (h : i ≤ qs.length) : (flig qs)[i]? = some (fl (qs.take i)) := by
  unfold flig
  rw [List.getElem?_map, List.getElem?_range (by omega)]
  rfl
@[simp] theorem flig_len (qs : List Part) : (flig qs).length = qs.length + 1 := by simp [flig]
def pr (p : Part) : QP := (Rat.divInt p.a p.b, Rat.divInt p.c p.d)
theorem abs_lt_of {a K : Int} {k : Nat} (h0 : 0 < a) (h1 : a ≤ K) (hK : K < 2 ^ k) : a.natAbs < 2 ^ k := by
  have h := Int.lt_of_le_of_lt h1 hK
  have e : ((a.natAbs : Nat) : Int) = a := Int.natAbs_of_nonneg (by omega)
  have e2 : ((2 ^ k : Nat) : Int) = 2 ^ k := Int.natCast_pow 2 k
  exact Int.ofNat_lt.mp (by rw [e, e2]; exact h)
theorem POk.fb {p : Part} (h : POk 9000 p) : Fb 5 (p.c, p.d) ∧ Fb 19 (p.c * p.b, p.d * p.a) ∧ Fb 19 (p.c * p.a, p.d * p.b) := by
  have ha := abs_lt_of (k := 14) h.a0 h.a1 (by decide)
  have hb := abs_lt_of (k := 14) h.b0 h.b1 (by decide)
  have hc := abs_lt_of (k := 5) h.c0 h.c1 (by decide)
  have hd := abs_lt_of (k := 5) h.d0 h.d1 (by decide)
  exact ⟨⟨h.d0, hc, hd⟩, ⟨Int.mul_pos h.d0 h.a0, abs_mul_lt hc hb, abs_mul_lt hd ha⟩, ⟨Int.mul_pos h.d0 h.b0, abs_mul_lt hc ha, abs_mul_lt hd hb⟩⟩
theorem div_fr (p : Part) (h : POk 9000 p) : fv (p.c * p.b, p.d * p.a) = (pr p).2 / (pr p).1 ∧ fv (p.c * p.a, p.d * p.b) = (pr p).2 * (pr p).1 := by
  constructor
  · show Rat.divInt (p.c * p.b) (p.d * p.a) = Rat.divInt p.c p.d / Rat.divInt p.a p.b
    rw [Rat.div_def, Rat.inv_divInt, Rat.divInt_mul_divInt]
  · show Rat.divInt (p.c * p.a) (p.d * p.b) = Rat.divInt p.c p.d * Rat.divInt p.a p.b
    rw [Rat.divInt_mul_divInt]
structure F3b (k : Nat) (x : F3) : Prop where
  a : Fb k x.1
  r : Fb k x.2.1
  l : Fb k x.2.2
theorem fl_ok : ∀ (n : Nat) (ps : List Part), ps.length = n → (∀ p ∈ ps, POk 9000 p) → F3b (20 * n + 1) (fl ps) ∧ fv (fl ps).1 = sA (ps.map pr) ∧ fv (fl ps).2.1 = sR (ps.map pr) ∧ fv (fl ps).2.2 = sL (ps.map pr) := by
  intro n
  induction n with
  | zero =>
    intro ps e _
    have := List.length_eq_zero_iff.mp e
    subst this
    have z : Fb 1 (0, 1) := ⟨by decide, by decide, by decide⟩
    exact ⟨⟨z, z, z⟩, Rat.zero_divInt 1, Rat.zero_divInt 1, Rat.zero_divInt 1⟩
  | succ n ih =>
    intro ps e ho
    obtain ⟨pre, p, rfl⟩ : ∃ pre p, ps = pre ++ [p] := by
      have hne : ps ≠ [] := fun z => by rw [z] at e; simp at e
      exact ⟨ps.dropLast, ps.getLast hne, (List.dropLast_concat_getLast hne).symm⟩
    have hl : pre.length = n := by simpa using e
    obtain ⟨b, v1, v2, v3⟩ := ih pre hl fun q m => ho q (by simp [m])
    have hp := ho p (by simp)
    obtain ⟨f1, f2, f3⟩ := hp.fb
    obtain ⟨d1, d2⟩ := div_fr p hp
    rw [fl_snoc]
    refine ⟨⟨(b.a.plus f1).mono (by omega), (b.r.plus f2).mono (by omega), (b.l.plus f3).mono (by omega)⟩, ?_, ?_, ?_⟩
    · show fv (plus _ _) = _
      rw [fv_plus b.a.pos f1.pos, v1, List.map_append, sA_app]
      simp [sA, Rat.add_zero, pr, fv]
    · show fv (plus _ _) = _
      rw [fv_plus b.r.pos f2.pos, v2, d1, List.map_append, sR_app]
      simp [sR, Rat.add_zero]
    · show fv (plus _ _) = _
      rw [fv_plus b.l.pos f3.pos, v3, d2, List.map_append, sL_app]
      simp [sL, Rat.add_zero]
def lapF : M Fl := (sSeq (sTg (gT [(gN 5), (gN 6), (gN 7)]) (eIxO 1 (eU (oU pNeg) (eK (.int 1))))) (sSeq (sAs 6 (eCd B__law_plus [] (aCons (eV 6) (aCons (eN pTup (aCons (eB (oP pMul) (eB (oP pIx) (eV 2) (eK (.int 0))) (eV 4)) (aCons (eB (oP pMul) (eB (oP pIx) (eV 2) (eK (.int 1))) (eV 3)) aNil))) aNil)))) (sApp 1 (eN pTup (aCons (eCd B__law_plus [] (aCons (eV 5) (aCons (eV 2) aNil))) (aCons (eV 6) (aCons (eCd B__law_plus [] (aCons (eV 7) (aCons (eN pTup (aCons (eB (oP pMul) (eB (oP pIx) (eV 2) (eK (.int 0))) (eV 3)) (aCons (eB (oP pMul) (eB (oP pIx) (eV 2) (eK (.int 1))) (eV 4)) aNil))) aNil))) aNil)))))))
theorem lapF_ok {pre : List Part} {p : Part} (hp : POk 9000 p) (ho : ∀ q ∈ pre, POk 9000 q) (hs : pre.length ≤ 100) (x0 y5 y6 y7 : Option D) :
    ∃ z5 z6 z7, lapF [x0, some (.lst ((flig pre).map f3D)), some (.tup [.int p.c, .int p.d]), some (.int p.a), some (.int p.b), y5, y6, y7] = .ok .nx [x0, some (.lst ((flig (pre ++ [p])).map f3D)), some (.tup [.int p.c, .int p.d]), some (.int p.a), some (.int p.b), z5, z6, z7] := by
  obtain ⟨b, _⟩ := fl_ok _ pre rfl ho
  obtain ⟨f1, f2, f3⟩ := hp.fb
  have e1 := plus_ok (k := 20 * pre.length + 19) (b.a.mono (by omega)) (f1.mono (by omega)) (by omega) (by omega)
  have e2 := plus_ok (k := 20 * pre.length + 19) (b.r.mono (by omega)) (f2.mono (by omega)) (by omega) (by omega)
  have e3 := plus_ok (k := 20 * pre.length + 19) (b.l.mono (by omega)) (f3.mono (by omega)) (by omega) (by omega)
  have hz : pre.length + 1 < sizeLine := Nat.lt_trans (by omega) size_big
  have ha := abs_lt_of (k := 14) hp.a0 hp.a1 (by decide)
  have hb := abs_lt_of (k := 14) hp.b0 hp.b1 (by decide)
  have ha' : p.a.natAbs < 2 ^ 60 := by omega
  have hb' : p.b.natAbs < 2 ^ 60 := by omega
  have m1 := pMul_int (mulB_right (i := p.c) ha')
  have m2 := pMul_int (mulB_right (i := p.c) hb')
  have m3 := pMul_int (mulB_right (i := p.d) ha')
  have m4 := pMul_int (mulB_right (i := p.d) hb')
  have en : fl (pre ++ [p]) = (plus (fl pre).1 (p.c, p.d), plus (fl pre).2.1 (p.c * p.b, p.d * p.a), plus (fl pre).2.2 (p.c * p.a, p.d * p.b)) := by rw [fl_snoc]; rfl
  refine ⟨some (frD (fl pre).1), some (frD (plus (fl pre).2.1 (p.c * p.b, p.d * p.a))), some (frD (fl pre).2.2), ?_⟩
  rw [flig_snoc, flig_last pre, en]
  have g1 : D.tup [.int p.c, .int p.d] = frD (p.c, p.d) := rfl
  have g2 : D.tup [.int (p.c * p.b), .int (p.d * p.a)] = frD (p.c * p.b, p.d * p.a) := rfl
  have g3 : D.tup [.int (p.c * p.a), .int (p.d * p.b)] = frD (p.c * p.a, p.d * p.b) := rfl
  have e1' : B__law_plus [frD (fl pre).1, .tup [.int p.c, .int p.d]] = _ := e1
  have e2' : B__law_plus [frD (fl pre).2.1, .tup [.int (p.c * p.b), .int (p.d * p.a)]] = _ := e2
  have e3' : B__law_plus [frD (fl pre).2.2, .tup [.int (p.c * p.a), .int (p.d * p.b)]] = _ := e3
  generalize plus (fl pre).1 (p.c, p.d) = P1 at *
  generalize plus (fl pre).2.1 (p.c * p.b, p.d * p.a) = P2 at *
  generalize plus (fl pre).2.2 (p.c * p.a, p.d * p.b) = P3 at *
  simp [lapF, f3D, itemsOf, gTs, e1', e2', e3', m1, m2, m3, m4, hz, show 3 ≤ big by unfold big; omega, show 2 ≤ big by unfold big; omega]
theorem law_lights_ok {ps : List Part} (ho : ∀ q ∈ ps, POk 9000 q) (hs : ps.length ≤ 100) : B__law_lights [.lst (ps.map pD)] = .ok (.lst ((flig ps).map f3D)) [none] := by
  generalize hx0 : D.lst (ps.map pD) = x0
  obtain ⟨r3, ⟨y2, y3, y4, y5, y6, y7, rfl⟩, e3⟩ := for_map (g := gT [(gT [(gN 3), (gN 4)]), (gN 2)]) (b := lapF) pD (fun pre r => ∃ y2 y3 y4 y5 y6 y7, r = [some x0, some (.lst ((flig pre).map f3D)), y2, y3, y4, y5, y6, y7]) ps
    (fun pre x post e r ⟨y2, y3, y4, y5, y6, y7, er⟩ => by
      have hl := congrArg List.length e
      simp at hl
      obtain ⟨z5, z6, z7, el⟩ := lapF_ok (pre := pre) (ho x (by rw [e]; simp)) (fun q m => ho q (by rw [e]; simp [m])) (by omega) (some x0) y5 y6 y7
      subst er
      exact ⟨_, _, by simp [pD, itemsOf, gTs], el, _, _, _, _, _, _, rfl⟩) ps [] rfl [some x0, some (.lst ((flig []).map f3D)), none, none, none, none, none, none] ⟨none, none, none, none, none, none, rfl⟩
  have e0 : (flig []).map f3D = [.tup [.tup [.int 0, .int 1], .tup [.int 0, .int 1], .tup [.int 0, .int 1]]] := rfl
  have eb : b__law_lights = (sSeq (sAsF 1 (eN pLst (aCons (eN pTup (aCons (eN pTup (aCons (eK (.int 0)) (aCons (eK (.int 1)) aNil))) (aCons (eN pTup (aCons (eK (.int 0)) (aCons (eK (.int 1)) aNil))) (aCons (eN pTup (aCons (eK (.int 0)) (aCons (eK (.int 1)) aNil))) aNil)))) aNil))) (sSeq (sFor (itL (eV 0)) (gT [(gT [(gN 3), (gN 4)]), (gN 2)]) lapF) (sRet (eV 1)))) := rfl
  rw [e0] at e3
  have hx : itemsOf x0 = some (ps.map pD) := by rw [← hx0]; rfl
  rw [B__law_lights, eb]
  simp [mkB, hx, e3, show 3 ≤ big by unfold big; omega, show 1 ≤ big by unfold big; omega, show 2 ≤ big by unfold big; omega]
end Kw

namespace Kw
open PySem PySem.Spec PyProof.Rows L2 Z
theorem cast_pos {a : Int} (h : 0 < a) : (0 : Rat) < (a : Rat) := Rat.intCast_pos.mpr h
theorem fv_mul {f : Fr} (h : 0 < f.2) : fv f * (f.2 : Rat) = (f.1 : Rat) := by
  have := cast_pos h
  unfold fv
  rw [Rat.divInt_eq_div]
  grind
theorem fv_lt {f g : Fr} (hf : 0 < f.2) (hg : 0 < g.2) : fv f < fv g ↔ f.1 * g.2 < g.1 * f.2 := by
  have p1 := cast_pos hf
  have p2 := cast_pos hg
  have e1 := fv_mul hf
  have e2 := fv_mul hg
  rw [← Rat.intCast_lt_intCast, Rat.intCast_mul, Rat.intCast_mul, ← e1, ← e2]
  have p3 : (0 : Rat) < (f.2 : Rat) * (g.2 : Rat) := Rat.mul_pos p1 p2
  constructor
  · intro h
    have := Rat.mul_lt_mul_of_pos_right h p3
    grind
  · intro h
    apply Rat.not_le.mp
    intro z
    have := Rat.mul_le_mul_of_nonneg_right z (Rat.le_of_lt p3)
    grind
theorem fv_pos {f : Fr} (hf : 0 < f.2) : 0 < fv f ↔ 0 < f.1 := by
  have h := fv_lt (f := (0, 1)) (g := f) (by decide) hf
  have e : fv (0, 1) = 0 := Rat.zero_divInt 1
  rw [e] at h
  rw [h]
  simp
theorem pr_pos {p : Part} (h : POk 9000 p) : 0 < (pr p).1 ∧ 0 < (pr p).2 :=
  ⟨(fv_pos (f := (p.a, p.b)) h.b0).mpr h.a0, (fv_pos (f := (p.c, p.d)) h.d0).mpr h.c0⟩
theorem pr_qok {p : Part} (h : POk 9000 p) : QOk 14 (pr p) := by
  have ha := abs_lt_of (k := 14) h.a0 h.a1 (by decide)
  have hb := abs_lt_of (k := 14) h.b0 h.b1 (by decide)
  have hc := abs_lt_of (k := 14) h.c0 h.c1 (by decide)
  have hd := abs_lt_of (k := 14) h.d0 h.d1 (by decide)
  exact ⟨(pr_pos h).1, Rat.le_of_lt (pr_pos h).2, Bd.of h.b0 ha hb, Bd.of h.d0 hc hd⟩
theorem PB_of {ps : List Part} (ho : ∀ q ∈ ps, POk 9000 q) : PB (20 * ps.length + 1) (ps.map pr) := fun i => by
  obtain ⟨b, v1, v2, v3⟩ := fl_ok _ (ps.take i) rfl fun q m => ho q (List.mem_of_mem_take m)
  rw [← List.map_take, ← v1, ← v2, ← v3]
  have hl : (ps.take i).length ≤ ps.length := by simp; omega
  exact ⟨b.a.bd.mono (by omega), b.r.bd.mono (by omega), b.l.bd.mono (by omega)⟩
theorem PB.mono {k m : Nat} {qs : List QP} (h : PB k qs) (hk : k ≤ m) : PB m qs := fun i => ⟨(h i).1.mono hk, (h i).2.1.mono hk, (h i).2.2.mono hk⟩
theorem qs_ok {ps : List Part} (ho : ∀ q ∈ ps, POk 9000 q) : (∀ q ∈ ps.map pr, QOk 14 q) ∧ ∀ q ∈ ps.map pr, 0 < q.2 := by
  constructor
  · intro q m
    obtain ⟨p, hp, rfl⟩ := List.mem_map.mp m
    exact pr_qok (ho p hp)
  · intro q m
    obtain ⟨p, hp, rfl⟩ := List.mem_map.mp m
    exact (pr_pos (ho p hp)).2
theorem law_tour_ok {ps : List Part} (ho : ∀ q ∈ ps, POk 9000 q) (h1 : 1 ≤ ps.length) (h12 : ps.length ≤ 12) : B__law_tour [.lst (ps.map pD)] = .ok (tour (ps.map pr)) [none] := by
  have hb : ps.length ≤ big := by unfold big; omega
  have hlen : (ps.map pr).length = ps.length := by simp
  obtain ⟨q1, q2⟩ := qs_ok ho
  have tk := tour_ok (x1 := .lst ((ps.map pr).map pairD)) rfl (by simp [B_is_listed, mkB, b_is_listed, kAny, kT, tyN]) (by rw [pLen_lst]; simp) q1 q2 ((PB_of ho).mono (by omega : _ ≤ 241)) (by omega) (by omega) (by omega) (by omega) (by omega)
  generalize hx0 : D.lst (ps.map pD) = x0
  obtain ⟨r1, ⟨y1, y2, rfl⟩, e1⟩ := lc_map (vs := [1, 2]) (g := gT [(gN 1), (gN 2)]) (t := tY) (f := eN pTup (aCons (eNd 0 B_Ratio___init__ [] (aCons (eB (oP pIx) (eV 1) (eK (.int 0))) (aCons (eB (oP pIx) (eV 1) (eK (.int 1))) aNil))) (aCons (eNd 0 B_Ratio___init__ [] (aCons (eB (oP pIx) (eV 2) (eK (.int 0))) (aCons (eB (oP pIx) (eV 2) (eK (.int 1))) aNil))) aNil))) pD (fun p => pairD (pr p)) (fun r => ∃ y1 y2, r = [some x0, y1, y2]) ps (fun p hm r ⟨y1, y2, er⟩ => by
    subst er
    have h := ho p hm
    have hb := abs_lt_of (k := 14) h.b0 h.b1 (by decide)
    have hd := abs_lt_of (k := 14) h.d0 h.d1 (by decide)
    have z1 := B_ratio (n := p.a) (d := p.b) h.b0 (Nat.lt_of_lt_of_le hb (Nat.pow_le_pow_right (by omega) (by omega)))
    have z2 := B_ratio (n := p.c) (d := p.d) h.d0 (Nat.lt_of_lt_of_le hd (Nat.pow_le_pow_right (by omega) (by omega)))
    refine ⟨[some x0, some (.tup [.int p.a, .int p.b]), some (.tup [.int p.c, .int p.d])], [some x0, some (.tup [.int p.a, .int p.b]), some (.tup [.int p.c, .int p.d])], by simp [wipeE, pD, itemsOf, gTs], rfl, by simp [z1, z2, pairD, pr, show 2 ≤ big by unfold big; omega], _, _, rfl⟩) [some x0, none, none] ⟨none, none, rfl⟩
  have hx : itemsOf x0 = some (ps.map pD) := by rw [← hx0]; rfl
  have em : ps.map (fun p => pairD (pr p)) = (ps.map pr).map pairD := by simp
  rw [em] at e1
  have hb2 : (ps.map pD).length ≤ big := by simpa using hb
  generalize (ps.map pr).map pairD = P at *
  generalize ps.map pD = P2 at *
  simp [B__law_tour, mkB, b__law_tour, hx, hb2, e1, lcOut, backE, tk]
theorem half_eq (t : Fr) (h : 0 < t.2) : Rat.divInt t.1 (2 * t.2) = fv t * hf := by
  unfold fv hf
  rw [Rat.divInt_mul_divInt, Int.mul_one, Int.mul_comm]
theorem law_lit_ok {k : Nat} {r l : Fr} (hr : Fb k r) (hl : Fb k l) (h0 : 0 < k) (hk : k ≤ 800) : B__law_lit [frD r, frD l] = .ok (stp ((fv r + fv l) * hf) [(fv l - fv r) * hf]) [none, none] := by
  have hn : Fb k (-r.1, r.2) := ⟨hr.pos, by show (-r.1).natAbs < _; rw [Int.natAbs_neg]; exact hr.n, hr.d⟩
  have e1 := plus_ok hl hr h0 (by omega)
  have e2 := plus_ok hl hn h0 (by omega)
  have b1 := hl.plus hr
  have b2 := hl.plus hn
  have v1 := fv_plus hl.pos hr.pos
  have v2 := fv_plus hl.pos hn.pos
  have vn : fv (-r.1, r.2) = - fv r := (Rat.neg_divInt r.1 r.2).symm
  rw [vn, ← Rat.sub_eq_add_neg] at v2
  rw [Rat.add_comm] at v1
  have key : ∀ {t : Fr}, Fb (k + k + 1) t → B_Ratio___init__ [.ob 0 [], .int t.1, .int (2 * t.2)] = .ok .non [some (rt (fv t * hf)), none, none] := fun {t} b => by
    have := B_ratio (n := t.1) (d := 2 * t.2) (by have := b.pos; omega) (by
      have h2 := abs_mul_lt (a := 2) (j := 2) (by decide) b.d
      exact Nat.lt_of_lt_of_le h2 (Nat.pow_le_pow_right (by omega) (by omega)))
    rwa [half_eq t b.pos] at this
  have z1 := key b1
  have z2 := key b2
  have m1 := pMul_int (mulB_left (i := 2) (j := (plus l r).2) (by decide))
  have m2 := pMul_int (mulB_left (i := 2) (j := (plus l (-r.1, r.2)).2) (by decide))
  have st := step1 (b1.bd.mul2 hf_bd) (b2.bd.mul2 hf_bd) (by omega) (by omega)
  rw [v1] at z1 st
  rw [v2] at z2 st
  have e2' : B__law_plus [frD l, .tup [.int (-r.1), .int r.2]] = _ := e2
  have i0 : pIx (frD r) (.int 0) = some (.int r.1) := ix_tup_0 _ _
  have i1 : pIx (frD r) (.int 1) = some (.int r.2) := ix_tup_1 _ _ _
  have j0 : ∀ t : Fr, pIx (frD t) (.int 0) = some (.int t.1) := fun t => ix_tup_0 _ _
  have j1 : ∀ t : Fr, pIx (frD t) (.int 1) = some (.int t.2) := fun t => ix_tup_1 _ _ _
  generalize plus l r = T at *
  generalize plus l (-r.1, r.2) = U at *
  generalize frD l = L at *
  generalize hR : frD r = R at *
  simp [B__law_lit, mkB, b__law_lit, gTs, i0, i1, e1, e2', j0, j1, m1, m2, z1, z2, st, show 2 ≤ big by unfold big; omega, show 1 ≤ big by unfold big; omega]
theorem less_ok {k : Nat} {f g : Fr} (hf : Fb k f) (hg : Fb k g) (h0 : 0 < k) (hk : k ≤ 400000) : B__law_is_less [frD f, frD g] = .ok (.bl (decide (fv f < fv g))) [none, none] := by
  have m1 := pMul_int (mulB_both hf.n hg.d h0 h0 hk hk)
  have m2 := pMul_int (mulB_both hg.n hf.d h0 h0 hk hk)
  have e := fv_lt hf.pos hg.pos
  have j0 : ∀ t : Fr, pIx (frD t) (.int 0) = some (.int t.1) := fun t => ix_tup_0 _ _
  have j1 : ∀ t : Fr, pIx (frD t) (.int 1) = some (.int t.2) := fun t => ix_tup_1 _ _ _
  simp [B__law_is_less, mkB, b__law_is_less, j0, j1, m1, m2, e]
/-! deep == -/
theorem eqL_same {f : D → D → Option Bool} : ∀ {l : List D}, (∀ x ∈ l, f x x = some true) → eqL f l l = some true
  | [], _ => rfl
  | x :: l, h => by
    rw [eqL, h x (by simp)]
    exact eqL_same fun y m => h y (List.mem_cons_of_mem _ m)
theorem eqY_rt {tb : List (Nat × Beh)} {n : Nat} (h : tb.lookup 0 = some B_Ratio___eq__) (p q : Rat) : eqY tb ["int"] [0, 1, 2] n (rt p) (rt q) = some (decide (p = q)) := by
  have e := eq_ok p q
  have a : p ≠ q → apt (rt p) (rt q) = true := fun ne => by
    by_cases h1 : p.num = q.num
    · have h2 : (p.den : Int) ≠ q.den := fun z => ne (Rat.ext h1 (by omega))
      simp [apt, neI, h2]
    · simp [apt, neI, h1]
  have : eqO (some B_Ratio___eq__) (rt p) (rt q) = some (decide (p = q)) := by
    unfold eqO
    simp only [e]
    by_cases hh : p = q
    · simp [hh]
    · simp [hh, a hh]
  cases n <;> simp [eqY, rk, h, this]
theorem eqY_st {tb : List (Nat × Beh)} {n : Nat} (h : tb.lookup 1 = some B_Step___eq__) (t x : Rat) : eqY tb ["int"] [0, 1, 2] n (stp t [x]) (stp t [x]) = some true := by
  have e := step_eq1 t x
  have : eqO (some B_Step___eq__) (stp t [x]) (stp t [x]) = some true := by
    unfold eqO
    simp only [e]
    simp
  cases n <;> simp [eqY, rk, h, this]
theorem eqY_pair {tb : List (Nat × Beh)} (h : tb.lookup 0 = some B_Ratio___eq__) (p q : QP) : eqY tb ["int"] [0, 1, 2] 1 (pairD p) (pairD q) = some (decide (p = q)) := by
  have e1 := eqY_rt (n := 0) h p.1 q.1
  have e2 := eqY_rt (n := 0) h p.2 q.2
  obtain ⟨p1, p2⟩ := p
  obtain ⟨q1, q2⟩ := q
  simp only at e1 e2
  have key : eqY tb ["int"] [0, 1, 2] 1 (pairD (p1, p2)) (pairD (q1, q2)) = eqL (eqY tb ["int"] [0, 1, 2] 0) [rt p1, rt p2] [rt q1, rt q2] := by
    unfold pairD
    rw [eqY]
  rw [key, eqL, e1]
  by_cases h1 : p1 = q1
  · rw [eqL, e2]
    by_cases h2 : p2 = q2
    · simp [h1, h2, eqL]
    · simp [h1, h2]
  · simp [h1]
theorem eqL_pairs {tb : List (Nat × Beh)} (h : tb.lookup 0 = some B_Ratio___eq__) : ∀ xs ys : List QP, eqL (eqY tb ["int"] [0, 1, 2] 1) (xs.map pairD) (ys.map pairD) = some (decide (xs = ys))
  | [], [] => rfl
  | [], _ :: _ => rfl
  | _ :: _, [] => rfl
  | x :: xs, y :: ys => by
    rw [List.map_cons, List.map_cons, eqL, eqY_pair h]
    by_cases e : x = y
    · simp [e, eqL_pairs h xs ys]
    · simp [e]
theorem tour_eq (xs ys : List QP) : B_Tour___eq__ [tour xs, tour ys] = .ok (.bl (decide (xs = ys))) [none, none] := by
  have e := eqL_pairs (tb := [(0, B_Ratio___eq__)]) rfl xs ys
  simp [B_Tour___eq__, mkB, b_Tour___eq__, kO, oEY, e]
theorem need_tour_ok (qs : List QP) (x : D) : B_need_tour [tour qs, x] = .ok .non [none, none] := by
  simp [B_need_tour, mkB, b_need_tour, kO]
end Kw

namespace Kw
open PySem PySem.Spec PyProof.Rows L2 Z
def Pos (qs : List QP) : Prop := ∀ q ∈ qs, 0 < q.1 ∧ 0 < q.2
theorem Pos.tail {q : QP} {l : List QP} (h : Pos (q :: l)) : Pos l := fun x m => h x (List.mem_cons_of_mem _ m)
theorem div_mul {b k : Rat} (h : 0 < k) : b / k * k = b := by grind
theorem div_pos {b k : Rat} (hb : 0 < b) (h : 0 < k) : 0 < b / k := by
  have e := div_mul (b := b) h
  apply Rat.not_le.mp
  intro z
  have := Rat.mul_le_mul_of_nonneg_right z (Rat.le_of_lt h)
  grind
theorem zero_div' (k : Rat) : (0 : Rat) / k = 0 := by rw [Rat.div_def, Rat.zero_mul]
theorem div_nonneg {b k : Rat} (hb : 0 ≤ b) (h : 0 < k) : 0 ≤ b / k := by
  by_cases z : b = 0
  · rw [z, zero_div']; exact Rat.le_refl
  · exact Rat.le_of_lt (div_pos (by grind) h)
theorem e_one {k x b : Rat} (hk : 0 < k) (hx : 0 < x) (hb : 0 < b) : 0 ≤ b / x * k + b * x / k - 2 * b ∧ (b / x * k + b * x / k - 2 * b = 0 ↔ x = k) := by
  have e : (b / x * k + b * x / k - 2 * b) * (x * k) = b * ((k - x) * (k - x)) := by grind
  have p : 0 < x * k := Rat.mul_pos hx hk
  have sq : 0 ≤ (k - x) * (k - x) := by
    rcases Rat.le_total (a := k - x) (b := 0) with z | z
    · have := Rat.mul_nonneg (a := -(k - x)) (b := -(k - x)) (by grind) (by grind)
      grind
    · exact Rat.mul_nonneg z z
  constructor
  · apply Rat.not_lt.mp
    intro z
    have h1 := Rat.mul_lt_mul_of_pos_right z p
    have h2 := Rat.mul_nonneg (Rat.le_of_lt hb) sq
    grind
  · constructor
    · intro z
      rw [z, Rat.zero_mul] at e
      have h3 : b * ((k - x) * (k - x)) = 0 := e.symm
      have h4 : (k - x) * (k - x) = 0 := by
        rcases Rat.mul_eq_zero.mp h3 with q | q
        · rw [q] at hb; exact absurd hb (by decide)
        · exact q
      rcases Rat.mul_eq_zero.mp h4 with q | q <;> grind
    · intro z
      subst z
      grind
def eE (k : Rat) (qs : List QP) : Rat := sR qs * k + sL qs / k - 2 * sA qs
theorem eE_cons (k : Rat) (q : QP) (l : List QP) : eE k (q :: l) = (q.2 / q.1 * k + q.2 * q.1 / k - 2 * q.2) + eE k l := by
  simp only [eE, sR, sL, sA, Rat.div_def]
  grind
theorem eE_ok {k : Rat} (hk : 0 < k) : ∀ {qs : List QP}, Pos qs → 0 ≤ eE k qs ∧ (eE k qs = 0 ↔ ∀ q ∈ qs, q.1 = k)
  | [], _ => by
    have : eE k [] = 0 := by simp only [eE, sR, sL, sA, Rat.div_def]; grind
    rw [this]
    exact ⟨Rat.le_refl, by simp⟩
  | q :: l, h => by
    obtain ⟨h1, h2⟩ := eE_ok hk h.tail
    have hq := h q (by simp)
    obtain ⟨g1, g2⟩ := e_one hk hq.1 hq.2
    rw [eE_cons]
    refine ⟨by grind, ?_⟩
    constructor
    · intro z
      have z1 : q.2 / q.1 * k + q.2 * q.1 / k - 2 * q.2 = 0 := by grind
      have z2 : eE k l = 0 := by grind
      intro x m
      rcases List.mem_cons.mp m with e | m
      · rw [e]; exact g2.mp z1
      · exact h2.mp z2 x m
    · intro z
      rw [g2.mpr (z q (by simp)), h2.mpr fun x m => z x (List.mem_cons_of_mem _ m), Rat.add_zero]
def dD (qs : List QP) : Rat := sR qs * sL qs - sA qs * sA qs
theorem dD_cons {q : QP} {l : List QP} (h : 0 < q.1) : dD (q :: l) = dD l + q.2 * eE q.1 l := by
  simp only [dD, eE, sR, sL, sA]
  grind
theorem dD_same {k : Rat} (hk : 0 < k) : ∀ {qs : List QP}, Pos qs → (∀ q ∈ qs, q.1 = k) → dD qs = 0
  | [], _, _ => by simp only [dD, sR, sL, sA]; grind
  | q :: l, h, e => by
    have hq := h q (by simp)
    rw [dD_cons hq.1, dD_same hk h.tail fun x m => e x (List.mem_cons_of_mem _ m), (eE_ok hq.1 h.tail).2.mpr fun x m => (e x (List.mem_cons_of_mem _ m)).trans (e q (by simp)).symm]
    grind
theorem dD_nn : ∀ {qs : List QP}, Pos qs → 0 ≤ dD qs
  | [], _ => by simp only [dD, sR, sL, sA]; grind
  | q :: l, h => by
    have hq := h q (by simp)
    rw [dD_cons hq.1]
    have a := dD_nn h.tail
    have b := Rat.mul_nonneg (Rat.le_of_lt hq.2) (eE_ok hq.1 h.tail).1
    grind
theorem dD_ok {q : QP} {l : List QP} (h : Pos (q :: l)) : (dD (q :: l) = 0 ↔ ∀ x ∈ q :: l, x.1 = q.1) ∧ 0 ≤ dD (q :: l) := by
  have hq := h q (by simp)
  refine ⟨⟨fun z => ?_, fun z => dD_same hq.1 h z⟩, dD_nn h⟩
  rw [dD_cons hq.1] at z
  have a := dD_nn h.tail
  have b := Rat.mul_nonneg (Rat.le_of_lt hq.2) (eE_ok hq.1 h.tail).1
  have z2 : q.2 * eE q.1 l = 0 := by grind
  have z3 : eE q.1 l = 0 := by
    rcases Rat.mul_eq_zero.mp z2 with e | e
    · have := hq.2; rw [e] at this; exact absurd this (by decide)
    · exact e
  intro x m
  rcases List.mem_cons.mp m with e | m
  · rw [e]
  · exact (eE_ok hq.1 h.tail).2.mp z3 x m
/-! ### where an age is -/
def mn (a b : Rat) : Rat := if a < b then a else b
def cut : List QP → Rat → List QP
  | [], _ => []
  | q :: l, a => (q.1, mn a q.2) :: cut l (a - mn a q.2)
theorem cut_snoc (x : QP) : ∀ (pre : List QP) (a : Rat), cut (pre ++ [x]) a = cut pre a ++ [(x.1, mn (a - sA (cut pre a)) x.2)]
  | [], a => by
    have : a - sA (cut [] a) = a := by simp only [cut, sA]; grind
    rw [this]; rfl
  | q :: l, a => by
    rw [List.cons_append, cut, cut_snoc x l, cut, List.cons_append, sA]
    congr 4
    grind
theorem cut_take : ∀ (i : Nat) (qs : List QP) (a : Rat), cut (qs.take i) a = (cut qs a).take i
  | 0, _, _ => by simp [cut]
  | _ + 1, [], _ => by simp [cut]
  | i + 1, q :: l, a => by
    rw [List.take_succ_cons, cut, cut, List.take_succ_cons, cut_take i l]
@[simp] theorem cut_len : ∀ (qs : List QP) (a : Rat), (cut qs a).length = qs.length
  | [], _ => rfl
  | q :: l, a => by rw [cut, List.length_cons, List.length_cons, cut_len l]
def zs (l : List QP) : List QP := l.map fun q => (q.1, 0)
theorem zs_sums : ∀ (l : List QP), sA (zs l) = 0 ∧ sR (zs l) = 0 ∧ sL (zs l) = 0
  | [] => ⟨rfl, rfl, rfl⟩
  | q :: l => by
    obtain ⟨h1, h2, h3⟩ := zs_sums l
    show (0 : Rat) + sA (zs l) = 0 ∧ (0 : Rat) / q.1 + sR (zs l) = 0 ∧ (0 : Rat) * q.1 + sL (zs l) = 0
    rw [h1, h2, h3, zero_div', Rat.zero_mul, Rat.add_zero]
    exact ⟨rfl, rfl, rfl⟩
theorem zs_take (i : Nat) (l : List QP) : (zs l).take i = zs (l.take i) := by
  unfold zs
  rw [List.map_take]
theorem cut_zero : ∀ {l : List QP}, Pos l → cut l 0 = zs l
  | [], _ => rfl
  | q :: l, h => by
    have hq := (h q (by simp)).2
    have e : mn 0 q.2 = 0 := by unfold mn; rw [if_pos hq]
    have e2 : (0 : Rat) - 0 = 0 := by grind
    rw [cut, e, e2, cut_zero h.tail]
    rfl
theorem sA_nn : ∀ {l : List QP}, Pos l → 0 ≤ sA l
  | [], _ => Rat.le_refl
  | q :: l, h => by
    have := sA_nn h.tail
    have := (h q (by simp)).2
    rw [sA]
    grind
theorem sR_nn : ∀ {l : List QP}, Pos l → 0 ≤ sR l
  | [], _ => Rat.le_refl
  | q :: l, h => by
    have := sR_nn h.tail
    have := div_pos (h q (by simp)).2 (h q (by simp)).1
    rw [sR]
    grind
theorem sL_nn : ∀ {l : List QP}, Pos l → 0 ≤ sL l
  | [], _ => Rat.le_refl
  | q :: l, h => by
    have := sL_nn h.tail
    have := Rat.mul_pos (h q (by simp)).2 (h q (by simp)).1
    rw [sL]
    grind
theorem cut_at {q : QP} {post : List QP} {s : Rat} (h0 : 0 ≤ s) (h1 : s ≤ q.2) (hp : Pos post) : ∀ {pre : List QP}, Pos pre → cut (pre ++ q :: post) (sA pre + s) = pre ++ (q.1, s) :: zs post
  | [], _ => by
    have e : mn (0 + s) q.2 = s := by
      unfold mn
      split <;> grind
    have e2 : (0 : Rat) + s - s = 0 := by grind
    show cut (q :: post) (0 + s) = (q.1, s) :: zs post
    rw [cut, e, e2, cut_zero hp]
  | x :: pre, h => by
    have n := sA_nn h.tail
    have e : mn (sA (x :: pre) + s) x.2 = x.2 := by
      unfold mn
      rw [sA, if_neg (by grind)]
    have e2 : sA (x :: pre) + s - x.2 = sA pre + s := by rw [sA]; grind
    rw [List.cons_append, cut, e, e2, cut_at h0 h1 hp h.tail]
    rfl
theorem mn_mono {a b c : Rat} (h : a ≤ b) : mn a c ≤ mn b c := by
  unfold mn
  split <;> split <;> grind
theorem mn_rest {a b c : Rat} (h : a ≤ b) : a - mn a c ≤ b - mn b c := by
  unfold mn
  split <;> split <;> grind
theorem div_mono {a b k : Rat} (h : a ≤ b) (hk : 0 < k) : a / k ≤ b / k := by
  have := div_nonneg (b := b - a) (by grind) hk
  have e : (b - a) / k = b / k - a / k := by grind
  grind
theorem cut_mono : ∀ {qs : List QP} {a b : Rat}, Pos qs → a ≤ b → sR (cut qs a) ≤ sR (cut qs b) ∧ sL (cut qs a) ≤ sL (cut qs b)
  | [], _, _, _, _ => ⟨Rat.le_refl, Rat.le_refl⟩
  | q :: l, a, b, h, hab => by
    have hq := h q (by simp)
    obtain ⟨h1, h2⟩ := cut_mono h.tail (mn_rest (c := q.2) hab)
    have g1 := div_mono (mn_mono (c := q.2) hab) hq.1
    have g2 := Rat.mul_le_mul_of_nonneg_right (mn_mono (c := q.2) hab) (Rat.le_of_lt hq.1)
    simp only [cut, sR, sL]
    exact ⟨by grind, by grind⟩
end Kw

namespace Kw
open PySem PySem.Spec PyProof.Rows L2 Z
@[simp] theorem look_10 {α : Type} (a b : α) (l : List (Nat × α)) : List.lookup (0 : Nat) ((1, a) :: (0, b) :: l) = some b := rfl
theorem lc_filter {α : Type} {vs : List Nat} {g : Tg} {t : M Bool} {f : M D} (h out : α → D) (c : α → Bool) (P : Ev → Prop) : ∀ (xs : List α), (∀ x ∈ xs, ∀ r, P r → ∃ r1, g (h x) (wipeE vs r) = some r1 ∧ t r1 = .ok (c x) r1 ∧ P r1 ∧ f r1 = .ok (out x) r1) → ∀ r, P r → ∃ r', P r' ∧ lcGo vs g t f (xs.map h) r = some ((xs.filter c).map out, r')
  | [], _, r, p => ⟨r, p, rfl⟩
  | x :: xs, hs, r, p => by
    obtain ⟨r1, e1, e2, p2, e3⟩ := hs x (by simp) r p
    obtain ⟨r3, p3, e4⟩ := lc_filter h out c P xs (fun y m => hs y (List.mem_cons_of_mem _ m)) r1 p2
    refine ⟨r3, p3, ?_⟩
    cases hc : c x with
    | true =>
      rw [hc] at e2
      simp [lcGo, e1, e2, e3, e4, hc]
    | false =>
      rw [hc] at e2
      simp [lcGo, e1, e2, e4, hc]
def pP (p : Part) : PyData := .tuple [.tuple [.int p.a, .int p.b], .tuple [.int p.c, .int p.d]]
theorem toPs_parts (ps : List Part) : toPs (ps.map pD) = some (ps.map pP) := by
  induction ps with
  | nil => rfl
  | cons p ps ih => simp [toPs, toP, pD, pP, ih]
theorem canLay_parts (ps : List Part) : PyData.canLayAll0 (ps.map pP) = true := by
  induction ps with
  | nil => rfl
  | cons p ps ih => simp [PyData.canLayAll0, PyData.canLay0, pP, ih]
theorem depth_parts (ps : List Part) : PyData.depthAll (ps.map pP) ≤ 2 := by
  induction ps with
  | nil => simp [PyData.depthAll]
  | cons p ps ih => simp [PyData.depthAll, PyData.depth, pP]; omega
theorem pEq_parts (ps : List Part) : pEq (.lst (ps.map pD)) (.lst []) = some (.bl ps.isEmpty) := by
  unfold pEq pEqB toP SeqAt.shaped
  rw [toPs_parts]
  have h1 := canLay_parts ps
  have h2 := depth_parts ps
  cases ps with
  | nil => simp [PyData.canLay0, PyData.canLayAll0, PyData.depth, PyData.depthAll, PyData.eqv, PyData.eqvAll, toPs]
  | cons p ps =>
    have h3 : PyData.depthAll (pP p :: List.map pP ps) + 1 ≤ 64 := by simpa using Nat.le_trans h2 (by omega)
    simp only [List.map_cons, PyData.canLayAll0, Bool.and_eq_true] at h1 ⊢
    simp only [PyData.depthAll] at h3
    have h4 : max (pP p).depth (PyData.depthAll (List.map pP ps)) ≤ 63 := by omega
    simp [PyData.canLay0, h1, PyData.depth, h4, PyData.depthAll, PyData.eqv, PyData.eqvAll, toPs, PyData.canLayAll0]
theorem pNe_none : pNe (.lst []) (.lst []) = some (.bl false) := pNe_nil []
theorem fwd_ne : pNe (.str "forward") (.str "forward") = some (.bl false) := by
  rw [pNe_str (by decide +kernel) (by decide +kernel)]
  simp
theorem take_snoc {qs : List QP} {i : Nat} (h : i < qs.length) : ∃ q ∈ qs, qs.take (i + 1) = qs.take i ++ [q] := by
  refine ⟨qs[i], List.getElem_mem h, ?_⟩
  rw [List.take_succ, List.getElem?_eq_getElem h]
  rfl
theorem kind_fwd {qs : List QP} (hp : Pos qs) {i : Nat} (h : i < qs.length) :
    knd ((((lt (qs.take (i + 1))).2.1 + (lt (qs.take (i + 1))).2.2) * hf) - (((lt (qs.take i)).2.1 + (lt (qs.take i)).2.2) * hf))
      (dot ((((lt (qs.take (i + 1))).2.1 + (lt (qs.take (i + 1))).2.2) * hf) - (((lt (qs.take i)).2.1 + (lt (qs.take i)).2.2) * hf)) [(((lt (qs.take (i + 1))).2.2 - (lt (qs.take (i + 1))).2.1) * hf) - (((lt (qs.take i)).2.2 - (lt (qs.take i)).2.1) * hf)]
        ((((lt (qs.take (i + 1))).2.1 + (lt (qs.take (i + 1))).2.2) * hf) - (((lt (qs.take i)).2.1 + (lt (qs.take i)).2.2) * hf)) [(((lt (qs.take (i + 1))).2.2 - (lt (qs.take (i + 1))).2.1) * hf) - (((lt (qs.take i)).2.2 - (lt (qs.take i)).2.1) * hf)]) = "forward" := by
  obtain ⟨q, hq, e⟩ := take_snoc h
  have p1 := (hp q hq).1
  have p2 := (hp q hq).2
  rw [e, dot1]
  simp only [lt, sR_app, sL_app, sR, sL, Rat.add_zero, hf_eq]
  generalize sR (qs.take i) = R
  generalize sL (qs.take i) = L
  have a := div_pos p2 p1
  have b := Rat.mul_pos p2 p1
  have hd := Rat.mul_pos a b
  have t0 : 0 < (R + q.2 / q.1 + (L + q.2 * q.1)) * (1 / 2) - (R + L) * (1 / 2) := by grind
  generalize hX : q.2 / q.1 = u at *
  generalize hY : q.2 * q.1 = v at *
  have t1 : ((R + u + (L + v)) * (1 / 2) - (R + L) * (1 / 2)) * ((R + u + (L + v)) * (1 / 2) - (R + L) * (1 / 2)) - (0 + ((L + v - (R + u)) * (1 / 2) - (L - R) * (1 / 2)) * ((L + v - (R + u)) * (1 / 2) - (L - R) * (1 / 2))) = u * v := by grind
  rw [t1]
  unfold knd
  rw [if_neg (by grind), if_neg (by grind), if_pos t0]
theorem dot_lt (r l : Rat) : dot ((r + l) * hf) [(l - r) * hf] ((r + l) * hf) [(l - r) * hf] = r * l := by
  rw [dot1, hf_eq]
  grind
def outF (x : F3) : D := stp ((fv x.2.1 + fv x.2.2) * hf) [(fv x.2.2 - fv x.2.1) * hf]
theorem flig_spots {ps : List Part} (ho : ∀ q ∈ ps, POk 9000 q) : (flig ps).map outF = (lig (ps.map pr)).map spotD := by
  unfold flig lig
  rw [List.map_map, List.map_map, List.length_map]
  apply List.map_congr_left
  intro i hi
  obtain ⟨b, v1, v2, v3⟩ := fl_ok _ (ps.take i) rfl fun q m => ho q (List.mem_of_mem_take m)
  show outF (fl (ps.take i)) = spotD (lt ((ps.map pr).take i))
  unfold outF spotD lt
  rw [v2, v3, List.map_take]
theorem sq_ok (qs : List QP) : B_straight_square [tour qs] = .ok (rt (sR qs * sL qs)) [none] := by
  have n := need_tour_ok qs (.str "tour")
  have d := dot_lt (sR qs) (sL qs)
  simp [B_straight_square, mkB, b_straight_square, n, spotD, lt, d]
theorem ne_rt {tb : List (Nat × Beh)} (h : tb.lookup 0 = some B_Ratio___eq__) (p q : Rat) (r : Ev) : oNW tb ["int"] [0, 1, 2] pNe (rt p) (rt q) r = .ok (.bl (!decide (p = q))) r := by
  simp [oNW, rk, h, eq_ok, negO]
theorem ne_st {tb : List (Nat × Beh)} (h : tb.lookup 1 = some B_Step___eq__) (t x : Rat) (r : Ev) : oNW tb ["int"] [0, 1, 2] pNe (stp t [x]) (stp t [x]) r = .ok (.bl false) r := by
  simp [oNW, rk, h, step_eq1, negO]
theorem oNY_same {tb : List (Nat × Beh)} {l : List D} {r : Ev} (h : ∀ x ∈ l, eqY tb ["int"] [0, 1, 2] 0 x x = some true) : oNY 0 tb ["int"] [0, 1, 2] (.tup l) (.tup l) r = .ok (.bl false) r := by
  simp [oNY, eqL_same h]
end Kw

namespace Kw
open PySem PySem.Spec PyProof.Rows L2 Z
theorem pos_of {ps : List Part} (ho : ∀ q ∈ ps, POk 9000 q) : Pos (ps.map pr) := fun q m => by
  obtain ⟨p, hp, rfl⟩ := List.mem_map.mp m
  exact pr_pos (ho p hp)
theorem one_iff {p0 : Part} {l : List Part} (ho : ∀ q ∈ p0 :: l, POk 9000 q) : ((p0 :: l).filter fun p => !decide (p.a * p0.b = p0.a * p.b)).isEmpty = decide (dD ((p0 :: l).map pr) = 0) := by
  have hd := (dD_ok (q := pr p0) (l := l.map pr) (pos_of ho)).1
  rw [← List.map_cons] at hd
  have e : (((p0 :: l).filter fun p => !decide (p.a * p0.b = p0.a * p.b)).isEmpty = true) ↔ dD ((p0 :: l).map pr) = 0 := by
    rw [hd, List.isEmpty_iff, List.filter_eq_nil_iff]
    have h0 := ho p0 (by simp)
    have key : ∀ p ∈ p0 :: l, (p.a * p0.b = p0.a * p.b ↔ (pr p).1 = (pr p0).1) := fun p m => by
      have h := ho p m
      exact (Rat.divInt_eq_divInt_iff (by have := h.b0; omega) (by have := h0.b0; omega)).symm
    constructor
    · intro z x m
      obtain ⟨p, hp, rfl⟩ := List.mem_map.mp m
      have := z p hp
      exact (key p hp).mp (by simpa using this)
    · intro z p hp
      have := (key p hp).mpr (z (pr p) (List.mem_map.mpr ⟨p, hp, rfl⟩))
      simpa using this
  cases h : ((p0 :: l).filter fun p => !decide (p.a * p0.b = p0.a * p.b)).isEmpty with
  | true => rw [decide_eq_true (e.mp h)]
  | false =>
    have : ¬ dD ((p0 :: l).map pr) = 0 := fun z => by rw [e.mpr z] at h; cases h
    rw [decide_eq_false this]
theorem sign_of {x : Rat} (h : 0 ≤ x) : x.num.sign = if decide (x = 0) then 0 else 1 := by
  by_cases z : x = 0
  · subst z; rfl
  · have : 0 < x := by grind
    rw [Int.sign_eq_one_of_pos ((nm_pos x).mpr this)]
    simp [z]
theorem oNW_lst (tb : List (Nat × Beh)) (ts : List String) (cs : List Nat) (l : List D) (y : D) (r : Ev) : oNW tb ts cs pNe (.lst l) y r = liftO (pNe (.lst l) y) r := rfl
theorem mkB_run {n m : Nat} {io : List Nat} {b : M Fl} {ds : List D} {d : D} {r r0 : Ev} (hl : ds.length = n) (h0 : ds.map some ++ List.replicate (m - n) none = r0) (h : b r0 = .ok (.rt d) r) : mkB n m io b ds = .ok d (keepE io n r) := by
  unfold mkB
  rw [if_pos hl, h0, h]
theorem sSeq_nx {f g : M Fl} {r r1 : Ev} (h : f r = .ok .nx r1) : sSeq f g r = g r1 := by
  simp only [sSeq, h]
theorem oW_int (tb : List (Nat × Beh)) (ts : List String) (cs : List Nat) (p : D → D → Option D) (i : Int) (y : D) (r : Ev) : oW tb ts cs p (.int i) y r = liftO (p (.int i) y) r := rfl
theorem oW_rt {tb : List (Nat × Beh)} {ts : List String} {cs : List Nat} {p : D → D → Option D} {B : Beh} {a b c : Rat} (h : tb.lookup 0 = some B) (hc : cs.contains 0 = true) (e : B [rt a, rt b] = .ok (rt c) [none, none]) (r : Ev) : oW tb ts cs p (rt a) (rt b) r = .ok (rt c) r := by
  simp only [oW, rk, hc, if_true, h, e]
  simp
theorem ix_p0 (p : Part) : pIx (pD p) (.int 0) = some (.tup [.int p.a, .int p.b]) := ix_tup_0 _ _
def sr1 : M Fl := (sAs 2 (eCd B__law_lights [] (aCons (eV 0) aNil)))
def sr2 : M Fl := (sTg (gT [(gN 3), (gN 4), (gN 5)]) (eB (oP pIx) (eV 2) (eU (oU pNeg) (eK (.int 1)))))
def sr3 : M Fl := (sIf (tOn (tNo (tV (eIsi (kT [0, 1, 2] "tuple") (eFl [(2, 1)] (eV 1))))) (tOn (tV (eB (oNY 0 [(0, B_Ratio___eq__), (1, B_Step___eq__)] ["int"] [0, 1, 2]) (eFl [(2, 1)] (eV 1)) (eN pTuple (aCons (eLc [8] (itL (eV 2)) (gN 8) tY (eCd B__law_lit [] (aCons (eB (oP pIx) (eV 8) (eK (.int 1))) (aCons (eB (oP pIx) (eV 8) (eK (.int 2))) aNil)))) aNil)))) (tV (eB (oNW [(0, B_Ratio___eq__), (1, B_Step___eq__)] ["int"] [0, 1, 2] pNe) (eFl [(2, 3)] (eV 1)) (eB (oP pIx) (eFl [(2, 1)] (eV 1)) (eU (oU pNeg) (eK (.int 1)))))))) (sRet (eK (.bl false))) sNil)
def sr4 : M Fl := (sIf (tOn (tV (eB (oNW [(0, B_Ratio___eq__), (1, B_Step___eq__)] ["int"] [0, 1, 2] pNe) (eFl [(2, 2)] (eV 1)) (eNd 0 B_Ratio___init__ [] (aCons (eB (oP pIx) (eV 3) (eK (.int 0))) (aCons (eB (oP pIx) (eV 3) (eK (.int 1))) aNil))))) (tV (eB (oNW [(0, B_Ratio___eq__), (1, B_Step___eq__)] ["int"] [0, 1, 2] pNe) (eCk B_straight_square 0 1 [0] [] aNil (aCons (eV 1) aNil)) (eNd 0 B_Ratio___init__ [] (aCons (eB (oW [(0, B_Ratio___mul__)] ["int"] [0, 1] pMul) (eB (oP pIx) (eV 4) (eK (.int 0))) (eB (oP pIx) (eV 5) (eK (.int 0)))) (aCons (eB (oW [(0, B_Ratio___mul__)] ["int"] [0, 1] pMul) (eB (oP pIx) (eV 4) (eK (.int 1))) (eB (oP pIx) (eV 5) (eK (.int 1)))) aNil)))))) (sRet (eK (.bl false))) sNil)
def sr5 : M Fl := (sIf (tV (eB (oNW [(0, B_Ratio___eq__), (1, B_Step___eq__)] ["int"] [0, 1, 2] pNe) (eLc [9] (itN pRng (aCons (eN pLen (aCons (eV 0) aNil)) aNil)) (gN 9) (tV (eB (oNW [(0, B_Ratio___eq__), (1, B_Step___eq__)] ["int"] [0, 1, 2] pNe) (eFl [(1, 4)] (eB (oW [(1, B_Step___sub__), (0, B_Ratio___sub__)] ["int"] [0, 1] pSub) (eB (oP pIx) (eFl [(2, 1)] (eV 1)) (eB (oP pAdd) (eV 9) (eK (.int 1)))) (eB (oP pIx) (eFl [(2, 1)] (eV 1)) (eV 9)))) (eK (.str "forward")))) (eV 9)) (eN pLst aNil))) (sRet (eK (.bl false))) sNil)
def sr6 : M Fl := (sAs 6 (eB (oP pEq) (eLc [10] (itL (eV 0)) (gN 10) (tV (eB (oNW [(0, B_Ratio___eq__), (1, B_Step___eq__)] ["int"] [0, 1, 2] pNe) (eB (oW [(0, B_Ratio___mul__)] ["int"] [0, 1] pMul) (eB (oP pIx) (eB (oP pIx) (eV 10) (eK (.int 0))) (eK (.int 0))) (eB (oP pIx) (eB (oP pIx) (eB (oP pIx) (eV 0) (eK (.int 0))) (eK (.int 0))) (eK (.int 1)))) (eB (oW [(0, B_Ratio___mul__)] ["int"] [0, 1] pMul) (eB (oP pIx) (eB (oP pIx) (eB (oP pIx) (eV 0) (eK (.int 0))) (eK (.int 0))) (eK (.int 0))) (eB (oP pIx) (eB (oP pIx) (eV 10) (eK (.int 0))) (eK (.int 1)))))) (eV 10)) (eN pLst aNil)))
def sr7 : M Fl := (sAs 7 (eB (oW [(1, B_Step___sub__), (0, B_Ratio___sub__)] ["int"] [0, 1] pSub) (eCd B_straight_square [] (aCons (eV 1) aNil)) (eB (oW [(0, B_Ratio___mul__)] ["int"] [0, 1] pMul) (eFl [(2, 2)] (eV 1)) (eFl [(2, 2)] (eV 1)))))
def sr8 : M Fl := (sRet (eB (oP pEq) (ePr [(0, B_Ratio_sign)] (eV 7)) (eIf (tV (eV 6)) (eK (.int 0)) (eK (.int 1)))))
theorem srs : b__law_sums_right = (sSeq sr1 (sSeq sr2 (sSeq sr3 (sSeq sr4 (sSeq sr5 (sSeq sr6 (sSeq sr7 sr8))))))) := rfl
theorem sr5_ok {x0 tq Lg A0 R0 L0 : D} {NN : Int} {RL : List D} {y9 : Option D} (hle : pLen [x0] = some (.int NN)) (hrg : pRng [.int NN] = some RL) (hlR : RL.length ≤ big) (e2 : lcGo [9] (gN 9) (tV (eB (oNW [(0, B_Ratio___eq__), (1, B_Step___eq__)] ["int"] [0, 1, 2] pNe) (eFl [(1, 4)] (eB (oW [(1, B_Step___sub__), (0, B_Ratio___sub__)] ["int"] [0, 1] pSub) (eB (oP pIx) (eFl [(2, 1)] (eV 1)) (eB (oP pAdd) (eV 9) (eK (.int 1)))) (eB (oP pIx) (eFl [(2, 1)] (eV 1)) (eV 9)))) (eK (.str "forward")))) (eV 9) RL [some x0, some tq, some Lg, some A0, some R0, some L0, none, none, none, none, none] = some ([], [some x0, some tq, some Lg, some A0, some R0, some L0, none, none, none, y9, none])) :
    sr5 [some x0, some tq, some Lg, some A0, some R0, some L0, none, none, none, none, none] = .ok .nx [some x0, some tq, some Lg, some A0, some R0, some L0, none, none, none, none, none] := by
  simp [sr5, hle, hrg, hlR, e2, lcOut, backE, oNW_lst, pNe_none]
theorem sums_ok {ps : List Part} (ho : ∀ q ∈ ps, POk 9000 q) (h1 : 1 ≤ ps.length) (h12 : ps.length ≤ 12) : B__law_sums_right [.lst (ps.map pD), tour (ps.map pr)] = .ok (.bl true) [none, none] := by
  have hb : ps.length ≤ big := by unfold big; omega
  have hb1 : ps.length + 1 ≤ big := by unfold big; omega
  have hp := pos_of ho
  have hpb := (PB_of ho).mono (by omega : _ ≤ 241)
  have el := law_lights_ok ho (by omega)
  obtain ⟨fb, v1, v2, v3⟩ := fl_ok _ ps rfl ho
  generalize hqs : ps.map pr = qs at *
  have hlen : qs.length = ps.length := by rw [← hqs]; simp
  have la : pIx (.lst ((flig ps).map f3D)) (.int (-1)) = some (f3D (fl ps)) := by
    rw [flig_last, List.map_append]
    exact ix_last_l _ _
  have ls : pIx (.tup ((lig qs).map spotD)) (.int (-1)) = some (spotD (lt qs)) := by
    rw [lig_last, List.map_append]
    exact ix_last_t _ _
  have hg : ∀ i, i ≤ qs.length → pIx (.tup ((lig qs).map spotD)) (.int (i : Nat)) = some (spotD (lt (qs.take i))) := fun i hi => by
    rw [ix_tup, List.getElem?_map, lig_get hi]
    rfl
  have es : (flig ps).map outF = (lig qs).map spotD := by rw [flig_spots ho, hqs]
  have eqs : ∀ x ∈ (lig qs).map spotD, eqY [(0, B_Ratio___eq__), (1, B_Step___eq__)] ["int"] [0, 1, 2] 0 x x = some true := fun x m => by
    obtain ⟨y, _, rfl⟩ := List.mem_map.mp m
    exact eqY_st rfl _ _
  have c1 := fun r => oNY_same (tb := [(0, B_Ratio___eq__), (1, B_Step___eq__)]) (r := r) eqs
  have c2 : ∀ r, oNW [(0, B_Ratio___eq__), (1, B_Step___eq__)] ["int"] [0, 1, 2] pNe (spotD (lt qs)) (spotD (lt qs)) r = .ok (.bl false) r := fun r => ne_st rfl _ _ r
  have nA := B_ratio (n := (fl ps).1.1) (d := (fl ps).1.2) fb.a.pos (Nat.lt_of_lt_of_le fb.a.d (Nat.pow_le_pow_right (by omega) (by omega)))
  rw [show Rat.divInt (fl ps).1.1 (fl ps).1.2 = sA qs from v1] at nA
  have nS := B_ratio (n := (fl ps).2.1.1 * (fl ps).2.2.1) (d := (fl ps).2.1.2 * (fl ps).2.2.2) (Int.mul_pos fb.r.pos fb.l.pos) (Nat.lt_of_lt_of_le (abs_mul_lt fb.r.d fb.l.d) (Nat.pow_le_pow_right (by omega) (by omega)))
  rw [show Rat.divInt ((fl ps).2.1.1 * (fl ps).2.2.1) ((fl ps).2.1.2 * (fl ps).2.2.2) = sR qs * sL qs by rw [← v2, ← v3]; exact (Rat.divInt_mul_divInt _ _).symm] at nS
  have m1 := pMul_int (mulB_both fb.r.n fb.l.n (by omega) (by omega) (by omega) (by omega))
  have m2 := pMul_int (mulB_both fb.r.d fb.l.d (by omega) (by omega) (by omega) (by omega))
  have c3 := ne_rt (tb := [(0, B_Ratio___eq__), (1, B_Step___eq__)]) rfl (sA qs) (sA qs)
  have c4 := ne_rt (tb := [(0, B_Ratio___eq__), (1, B_Step___eq__)]) rfl (sR qs * sL qs) (sR qs * sL qs)
  have sq := sq_ok qs
  have bA : Bd 241 (sA qs) := by have := (hpb ps.length).1; rwa [List.take_of_length_le (by omega)] at this
  have bR : Bd 241 (sR qs) := by have := (hpb ps.length).2.1; rwa [List.take_of_length_le (by omega)] at this
  have bL : Bd 241 (sL qs) := by have := (hpb ps.length).2.2; rwa [List.take_of_length_le (by omega)] at this
  have eAA := mul_ok bA bA (by omega) (by omega)
  have eD := sub_ok (bR.mul2 bL) (bA.mul2 bA) (by omega) (by omega)
  have sg := sign_ok (sR qs * sL qs - sA qs * sA qs)
  generalize hx0 : D.lst (ps.map pD) = x0 at *
  have hx : itemsOf x0 = some (ps.map pD) := by rw [← hx0]; rfl
  have hle : pLen [x0] = some (.int (ps.length : Nat)) := by rw [← hx0, pLen_lst]; simp
  have hrg : pRng [.int (ps.length : Nat)] = some ((List.range ps.length).map fun i => D.int (i : Nat)) := pRng_nat _ (by omega)
  generalize hL : D.lst ((flig ps).map f3D) = Lg at *
  have hLi : itemsOf Lg = some ((flig ps).map f3D) := by rw [← hL]; rfl
  generalize hA0 : frD (fl ps).1 = A0
  generalize hR0 : frD (fl ps).2.1 = R0
  generalize hL0 : frD (fl ps).2.2 = L0
  have hlaI : itemsOf (f3D (fl ps)) = some [A0, R0, L0] := by rw [← hA0, ← hR0, ← hL0]; rfl
  obtain ⟨r1, ⟨y8, rfl⟩, e1⟩ := lc_map (vs := [8]) (g := gN 8) (t := tY) (f := eCd B__law_lit [] (aCons (eB (oP pIx) (eV 8) (eK (.int 1))) (aCons (eB (oP pIx) (eV 8) (eK (.int 2))) aNil))) f3D outF (fun r => ∃ y8, r = [some x0, some (tour qs), some Lg, some A0, some R0, some L0, none, none, y8, none, none]) (flig ps) (fun x hm r ⟨y8, er⟩ => by
    subst er
    obtain ⟨i, hi, rfl⟩ := List.mem_map.mp hm
    obtain ⟨b, _⟩ := fl_ok _ (ps.take i) rfl fun q m => ho q (List.mem_of_mem_take m)
    have hli : (ps.take i).length ≤ 12 := by simp; omega
    have e := law_lit_ok (b.r.mono (by omega : _ ≤ 241)) (b.l.mono (by omega)) (by omega) (by omega)
    have j1 : pIx (f3D (fl (ps.take i))) (.int 1) = some (frD (fl (ps.take i)).2.1) := ix_tup_1 _ _ _
    have j2 : pIx (f3D (fl (ps.take i))) (.int 2) = some (frD (fl (ps.take i)).2.2) := ix_tup_2 _ _ _ _
    refine ⟨[some x0, some (tour qs), some Lg, some A0, some R0, some L0, none, none, some (f3D (fl (ps.take i))), none, none], [some x0, some (tour qs), some Lg, some A0, some R0, some L0, none, none, some (f3D (fl (ps.take i))), none, none], by simp [wipeE], rfl, by simp [j1, j2, e, outF], _, rfl⟩) [some x0, some (tour qs), some Lg, some A0, some R0, some L0, none, none, none, none, none] ⟨none, rfl⟩
  rw [es] at e1
  obtain ⟨r2, ⟨y9, rfl⟩, e2⟩ := lc_filter (vs := [9]) (g := gN 9) (t := tV (eB (oNW [(0, B_Ratio___eq__), (1, B_Step___eq__)] ["int"] [0, 1, 2] pNe) (eFl [(1, 4)] (eB (oW [(1, B_Step___sub__), (0, B_Ratio___sub__)] ["int"] [0, 1] pSub) (eB (oP pIx) (eFl [(2, 1)] (eV 1)) (eB (oP pAdd) (eV 9) (eK (.int 1)))) (eB (oP pIx) (eFl [(2, 1)] (eV 1)) (eV 9)))) (eK (.str "forward")))) (f := eV 9) (fun i : Nat => D.int (i : Nat)) (fun i : Nat => D.int (i : Nat)) (fun _ => false) (fun r => ∃ y9, r = [some x0, some (tour qs), some Lg, some A0, some R0, some L0, none, none, none, y9, none]) (List.range ps.length) (fun i hm r ⟨y9, er⟩ => by
    subst er
    have hi : i < qs.length := by have := List.mem_range.mp hm; omega
    have g0 := hg i (by omega)
    have g1 := hg (i + 1) (by omega)
    rw [show ((i + 1 : Nat) : Int) = (i : Int) + 1 by omega] at g1
    have b0 := hpb i
    have b1 := hpb (i + 1)
    have kf := kind_fwd hp hi
    have ss := step_sub1 (k := 500) (t := ((lt (qs.take (i + 1))).2.1 + (lt (qs.take (i + 1))).2.2) * hf) (u := ((lt (qs.take i)).2.1 + (lt (qs.take i)).2.2) * hf) (x := ((lt (qs.take (i + 1))).2.2 - (lt (qs.take (i + 1))).2.1) * hf) (y := ((lt (qs.take i)).2.2 - (lt (qs.take i)).2.1) * hf) (((b1.2.1.add2 b1.2.2).mul2 hf_bd).mono (by omega)) (((b0.2.1.add2 b0.2.2).mul2 hf_bd).mono (by omega)) (((b1.2.2.sub2 b1.2.1).mul2 hf_bd).mono (by omega)) (((b0.2.2.sub2 b0.2.1).mul2 hf_bd).mono (by omega)) (by omega) (by omega)
    have ss' : B_Step___sub__ [spotD (lt (qs.take (i + 1))), spotD (lt (qs.take i))] = _ := ss
    generalize hT : ((lt (qs.take (i + 1))).2.1 + (lt (qs.take (i + 1))).2.2) * hf - ((lt (qs.take i)).2.1 + (lt (qs.take i)).2.2) * hf = TT at *
    generalize hX : ((lt (qs.take (i + 1))).2.2 - (lt (qs.take (i + 1))).2.1) * hf - ((lt (qs.take i)).2.2 - (lt (qs.take i)).2.1) * hf = XX at *
    have sp1 : spotD (lt (qs.take (i + 1))) = .ob 1 (sl (((lt (qs.take (i + 1))).2.1 + (lt (qs.take (i + 1))).2.2) * hf) [((lt (qs.take (i + 1))).2.2 - (lt (qs.take (i + 1))).2.1) * hf]) := rfl
    have sp0 : spotD (lt (qs.take i)) = .ob 1 (sl (((lt (qs.take i)).2.1 + (lt (qs.take i)).2.2) * hf) [((lt (qs.take i)).2.2 - (lt (qs.take i)).2.1) * hf]) := rfl
    rw [sp1] at g1 ss'
    rw [sp0] at g0 ss'
    have k4 := sl_4 TT [XX]
    rw [kf] at k4
    generalize sl (((lt (qs.take (i + 1))).2.1 + (lt (qs.take (i + 1))).2.2) * hf) [((lt (qs.take (i + 1))).2.2 - (lt (qs.take (i + 1))).2.1) * hf] = S1 at *
    generalize sl (((lt (qs.take i)).2.1 + (lt (qs.take i)).2.2) * hf) [((lt (qs.take i)).2.2 - (lt (qs.take i)).2.1) * hf] = S0 at *
    refine ⟨[some x0, some (tour qs), some Lg, some A0, some R0, some L0, none, none, none, some (.int (i : Nat)), none], by simp [wipeE], ?_, ⟨_, rfl⟩, by simp⟩
    simp [-ix_tup, g0, g1, oW, rk, ss', kf, oNW, fwd_ne]) [some x0, some (tour qs), some Lg, some A0, some R0, some L0, none, none, none, none, none] ⟨none, rfl⟩
  have ef : (List.range ps.length).filter (fun _ => false) = [] := by simp
  rw [ef] at e2
  obtain ⟨p0, rest, hps⟩ : ∃ p0 rest, ps = p0 :: rest := by
    cases ps with
    | nil => simp at h1
    | cons a b => exact ⟨a, b, rfl⟩
  have i00 : pIx x0 (.int 0) = some (pD p0) := by rw [← hx0, hps]; exact ix_lst0 _ _
  have h0 := ho p0 (by rw [hps]; simp)
  have ha0 := abs_lt_of (k := 14) h0.a0 h0.a1 (by decide)
  have hb0 := abs_lt_of (k := 14) h0.b0 h0.b1 (by decide)
  obtain ⟨r3, ⟨y10, rfl⟩, e3⟩ := lc_filter (vs := [10]) (g := gN 10) (t := tV (eB (oNW [(0, B_Ratio___eq__), (1, B_Step___eq__)] ["int"] [0, 1, 2] pNe) (eB (oW [(0, B_Ratio___mul__)] ["int"] [0, 1] pMul) (eB (oP pIx) (eB (oP pIx) (eV 10) (eK (.int 0))) (eK (.int 0))) (eB (oP pIx) (eB (oP pIx) (eB (oP pIx) (eV 0) (eK (.int 0))) (eK (.int 0))) (eK (.int 1)))) (eB (oW [(0, B_Ratio___mul__)] ["int"] [0, 1] pMul) (eB (oP pIx) (eB (oP pIx) (eB (oP pIx) (eV 0) (eK (.int 0))) (eK (.int 0))) (eK (.int 0))) (eB (oP pIx) (eB (oP pIx) (eV 10) (eK (.int 0))) (eK (.int 1)))))) (f := eV 10) pD pD (fun p => !decide (p.a * p0.b = p0.a * p.b)) (fun r => ∃ y10, r = [some x0, some (tour qs), some Lg, some A0, some R0, some L0, none, none, none, none, y10]) ps (fun p hm r ⟨y10, er⟩ => by
    subst er
    have h := ho p hm
    have ha := abs_lt_of (k := 14) h.a0 h.a1 (by decide)
    have hb := abs_lt_of (k := 14) h.b0 h.b1 (by decide)
    have q1 := pMul_int (mulB_both ha hb0 (by omega) (by omega) (by omega) (by omega))
    have q2 := pMul_int (mulB_both ha0 hb (by omega) (by omega) (by omega) (by omega))
    have i1 := ix_p0 p
    have i2 := ix_p0 p0
    generalize pD p = PD at *
    generalize pD p0 = PD0 at *
    refine ⟨[some x0, some (tour qs), some Lg, some A0, some R0, some L0, none, none, none, none, some PD], by simp [wipeE], ?_, ⟨_, rfl⟩, by simp⟩
    simp [i00, i1, i2, oW, q1, q2, oNW]) [some x0, some (tour qs), some Lg, some A0, some R0, some L0, none, none, none, none, none] ⟨none, rfl⟩
  have pe : pEq (.lst ((ps.filter fun p => !decide (p.a * p0.b = p0.a * p.b)).map pD)) (.lst []) = some (.bl (decide (dD qs = 0))) := by
    rw [pEq_parts, ← hqs]
    subst hps
    rw [one_iff ho]
  have sgd := sign_of (dD_nn hp)
  have dd : dD qs = sR qs * sL qs - sA qs * sA qs := rfl
  rw [← dd] at eD sg
  rw [sgd] at sg
  have jA0 : pIx A0 (.int 0) = some (.int (fl ps).1.1) := by rw [← hA0]; exact ix_tup_0 _ _
  have jA1 : pIx A0 (.int 1) = some (.int (fl ps).1.2) := by rw [← hA0]; exact ix_tup_1 _ _ _
  have jR0 : pIx R0 (.int 0) = some (.int (fl ps).2.1.1) := by rw [← hR0]; exact ix_tup_0 _ _
  have jR1 : pIx R0 (.int 1) = some (.int (fl ps).2.1.2) := by rw [← hR0]; exact ix_tup_1 _ _ _
  have jL0 : pIx L0 (.int 0) = some (.int (fl ps).2.2.1) := by rw [← hL0]; exact ix_tup_0 _ _
  have jL1 : pIx L0 (.int 1) = some (.int (fl ps).2.2.2) := by rw [← hL0]; exact ix_tup_1 _ _ _
  have hlF : ((flig ps).map f3D).length ≤ big := by simpa using hb1
  have hlP : (ps.map pD).length ≤ big := by simpa using hb
  have hlR : ((List.range ps.length).map fun i => D.int (i : Nat)).length ≤ big := by simpa using hb
  have hlS : ((lig qs).map spotD).length ≤ big := by simp; omega
  generalize (flig ps).map f3D = FL at *
  generalize ps.map pD = PL at *
  generalize ((List.range ps.length).map fun i => D.int (i : Nat)) = RL at *
  generalize ((ps.filter fun p => !decide (p.a * p0.b = p0.a * p.b)).map pD) = FP at *
  generalize f3D (fl ps) = FF at *
  generalize (fl ps).1.1 = n1 at *
  generalize (fl ps).1.2 = n2 at *
  generalize (fl ps).2.1.1 = n3 at *
  generalize (fl ps).2.1.2 = n4 at *
  generalize (fl ps).2.2.1 = n5 at *
  generalize (fl ps).2.2.2 = n6 at *
  generalize ((ps.length : Nat) : Int) = NN at *
  generalize dD qs = dq at *
  have w1 := oW_rt (tb := [(0, B_Ratio___mul__)]) (ts := ["int"]) (cs := [0, 1]) (p := pMul) rfl rfl eAA
  have w2 := oW_rt (tb := [(1, B_Step___sub__), (0, B_Ratio___sub__)]) (ts := ["int"]) (cs := [0, 1]) (p := pSub) rfl rfl eD
  have s1 : sr1 [some x0, some (tour qs), none, none, none, none, none, none, none, none, none] = .ok .nx [some x0, some (tour qs), some Lg, none, none, none, none, none, none, none, none] := by simp [sr1, el]
  have s2 : sr2 [some x0, some (tour qs), some Lg, none, none, none, none, none, none, none, none] = .ok .nx [some x0, some (tour qs), some Lg, some A0, some R0, some L0, none, none, none, none, none] := by simp [sr2, la, hlaI, gTs]
  have s3 : sr3 [some x0, some (tour qs), some Lg, some A0, some R0, some L0, none, none, none, none, none] = .ok .nx [some x0, some (tour qs), some Lg, some A0, some R0, some L0, none, none, none, none, none] := by
    simp [sr3, it_lst, kT, tyN, hLi, hlF, e1, lcOut, backE, pTuple, hlS, c1, ls, c2]
  have s4 : sr4 [some x0, some (tour qs), some Lg, some A0, some R0, some L0, none, none, none, none, none] = .ok .nx [some x0, some (tour qs), some Lg, some A0, some R0, some L0, none, none, none, none, none] := by
    simp [sr4, jA0, jA1, nA, c3, permL, sq, oW_int, jR0, jR1, jL0, jL1, m1, m2, nS, c4]
  have s5 : sr5 [some x0, some (tour qs), some Lg, some A0, some R0, some L0, none, none, none, none, none] = .ok .nx [some x0, some (tour qs), some Lg, some A0, some R0, some L0, none, none, none, none, none] := sr5_ok hle hrg hlR e2
  have s6 : sr6 [some x0, some (tour qs), some Lg, some A0, some R0, some L0, none, none, none, none, none] = .ok .nx [some x0, some (tour qs), some Lg, some A0, some R0, some L0, some (.bl (decide (dq = 0))), none, none, none, none] := by
    simp [sr6, hx, hlP, e3, lcOut, backE, pe]
  have s7 : sr7 [some x0, some (tour qs), some Lg, some A0, some R0, some L0, some (.bl (decide (dq = 0))), none, none, none, none] = .ok .nx [some x0, some (tour qs), some Lg, some A0, some R0, some L0, some (.bl (decide (dq = 0))), some (rt dq), none, none, none] := by
    simp [sr7, sq, w1, w2]
  have s8 : sr8 [some x0, some (tour qs), some Lg, some A0, some R0, some L0, some (.bl (decide (dq = 0))), some (rt dq), none, none, none] = .ok (.rt (.bl true)) [some x0, some (tour qs), some Lg, some A0, some R0, some L0, some (.bl (decide (dq = 0))), some (rt dq), none, none, none] := by
    by_cases hz : dq = 0
    · simp [hz] at sg
      simp [sr8, sg, hz]
    · simp [hz] at sg
      simp [sr8, sg, hz]
  have run := sSeq_nx (g := sSeq sr2 (sSeq sr3 (sSeq sr4 (sSeq sr5 (sSeq sr6 (sSeq sr7 sr8)))))) s1
  rw [sSeq_nx s2, sSeq_nx s3, sSeq_nx s4, sSeq_nx s5, sSeq_nx s6, sSeq_nx s7, s8] at run
  have z : mkB 2 11 [] (sSeq sr1 (sSeq sr2 (sSeq sr3 (sSeq sr4 (sSeq sr5 (sSeq sr6 (sSeq sr7 sr8))))))) [x0, tour qs] = _ := mkB_run (n := 2) (m := 11) (io := []) (r0 := [some x0, some (tour qs), none, none, none, none, none, none, none, none, none]) rfl rfl run
  rw [keepE2] at z
  rw [B__law_sums_right, srs]
  exact z
end Kw

namespace Kw
open PySem PySem.Spec PyProof.Rows L2 Z
def kr1 : M Fl := (sPar [gN 3, gN 4] (aCons (eCd B__law_tour [] (aCons (eRev (eV 1) (eU (oU pNeg) (eK (.int 1)))) aNil)) (aCons (eCo B__law_parts 0 (aCons (eK (.int 5)) aNil)) aNil)))
def kr2 : M Fl := (sIf (tOn (tV (eB (oNY 0 [(0, B_Ratio___eq__), (1, B_Step___eq__), (2, B_Tour___eq__)] ["int"] [0, 1, 2]) (eN pTup (aCons (eFl [(2, 2)] (eV 3)) (aCons (eFl [(2, 3)] (eV 3)) aNil))) (eN pTup (aCons (eFl [(2, 2)] (eV 2)) (aCons (eFl [(2, 3)] (eV 2)) aNil))))) (tV (eB (oNW [(0, B_Ratio___eq__), (1, B_Step___eq__), (2, B_Tour___eq__)] ["int"] [0, 1, 2] pNe) (eB (oET [(0, B_Ratio___eq__), (1, B_Step___eq__), (2, B_Tour___eq__)] ["int"] [0, 1, 2]) (eV 3) (eV 2)) (eB (oEY 1 [(0, B_Ratio___eq__), (1, B_Step___eq__), (2, B_Tour___eq__)] ["int"] [0, 1, 2]) (eFl [(2, 0)] (eV 3)) (eFl [(2, 0)] (eV 2)))))) (sRet (eK (.bl false))) sNil)
def kr3 : M Fl := (sAs 5 (eCd B__law_tour [] (aCons (eV 4) aNil)))
def kr4 : M Fl := (sAs 6 (eMk [(2, B_Tour_joined)] 0 1 [0] [] (eV 2) aNil (aCons (eV 5) aNil)))
def kr5 : M Fl := (sIf (tOn (tV (eB (oNW [(0, B_Ratio___eq__), (1, B_Step___eq__), (2, B_Tour___eq__)] ["int"] [0, 1, 2] pNe) (eV 6) (eCd B__law_tour [] (aCons (eB (oW [(0, B_Ratio___add__), (1, B_Step___add__)] ["int"] [0, 1] pAdd) (eV 1) (eV 4)) aNil)))) (tOn (tV (eB (oNW [(0, B_Ratio___eq__), (1, B_Step___eq__), (2, B_Tour___eq__)] ["int"] [0, 1, 2] pNe) (eFl [(2, 2)] (eV 6)) (eB (oW [(0, B_Ratio___add__), (1, B_Step___add__)] ["int"] [0, 1] pAdd) (eFl [(2, 2)] (eV 2)) (eFl [(2, 2)] (eV 5))))) (tV (eB (oNW [(0, B_Ratio___eq__), (1, B_Step___eq__), (2, B_Tour___eq__)] ["int"] [0, 1, 2] pNe) (eFl [(2, 3)] (eV 6)) (eB (oW [(0, B_Ratio___add__), (1, B_Step___add__)] ["int"] [0, 1] pAdd) (eFl [(2, 3)] (eV 2)) (eFl [(2, 3)] (eV 5))))))) (sRet (eK (.bl false))) sNil)
def kr6 : M Fl := (sTg (gT [(gN 7), (gN 8)]) (eN pTup (aCons (eB (oW [(0, B_Ratio___add__), (1, B_Step___add__)] ["int"] [0, 1] pAdd) (eK (.int 1)) (eCo B__law_draw 0 (aCons (eK (.int 9)) aNil))) (aCons (eB (oW [(0, B_Ratio___add__), (1, B_Step___add__)] ["int"] [0, 1] pAdd) (eK (.int 1)) (eCo B__law_draw 0 (aCons (eK (.int 9)) aNil))) aNil))))
def kr7 : M Fl := (sAs 9 (eCd B__law_tour [] (aCons (eLc [10, 11] (itL (eV 1)) (gT [(gN 10), (gN 11)]) tY (eN pTup (aCons (eN pTup (aCons (eB (oW [(0, B_Ratio___mul__)] ["int"] [0, 1] pMul) (eB (oP pIx) (eV 10) (eK (.int 0))) (eV 8)) (aCons (eB (oW [(0, B_Ratio___mul__)] ["int"] [0, 1] pMul) (eB (oP pIx) (eV 10) (eK (.int 1))) (eV 7)) aNil))) (aCons (eV 11) aNil)))) aNil)))
def kr8 : M Fl := (sIf (tOn (tV (eB (oNW [(0, B_Ratio___eq__), (1, B_Step___eq__), (2, B_Tour___eq__)] ["int"] [0, 1, 2] pNe) (eFl [(2, 2)] (eV 9)) (eFl [(2, 2)] (eV 2)))) (tV (eB (oNW [(0, B_Ratio___eq__), (1, B_Step___eq__), (2, B_Tour___eq__)] ["int"] [0, 1, 2] pNe) (eCd B_straight_square [] (aCons (eV 9) aNil)) (eCd B_straight_square [] (aCons (eV 2) aNil))))) (sRet (eK (.bl false))) sNil)
def kr9 : M Fl := (sRet (eB (oET [(0, B_Ratio___eq__), (1, B_Step___eq__), (2, B_Tour___eq__)] ["int"] [0, 1, 2]) (eB (oW [(0, B_Ratio___sub__)] ["int"] [0, 1] pSub) (eFl [(1, 0)] (eFl [(2, 3)] (eV 9))) (eB (oP pIx) (eFl [(1, 1)] (eFl [(2, 3)] (eV 9))) (eK (.int 0)))) (eB (oW [(0, B_Ratio___mul__)] ["int"] [0, 1] pMul) (eB (oW [(0, B_Ratio___sub__)] ["int"] [0, 1] pSub) (eFl [(1, 0)] (eFl [(2, 3)] (eV 2))) (eB (oP pIx) (eFl [(1, 1)] (eFl [(2, 3)] (eV 2))) (eK (.int 0)))) (eNd 0 B_Ratio___init__ [] (aCons (eV 7) (aCons (eV 8) aNil))))))
theorem krs : b__law_kin_right = (sSeq kr1 (sSeq kr2 (sSeq kr3 (sSeq kr4 (sSeq kr5 (sSeq kr6 (sSeq kr7 (sSeq kr8 kr9)))))))) := rfl
abbrev T3b : List (Nat × Beh) := [(0, B_Ratio___eq__), (1, B_Step___eq__), (2, B_Tour___eq__)]
theorem pNe_bl (b c : Bool) : pNe (.bl b) (.bl c) = some (.bl (!(b == c))) := by
  unfold pNe pEqB toP SeqAt.shaped
  simp [PyData.canLay0, PyData.depth, PyData.eqv]
theorem sA_rev (l : List QP) : sA l.reverse = sA l := by
  induction l with
  | nil => rfl
  | cons q l ih =>
    rw [List.reverse_cons, sA_app, ih]
    simp only [sA, Rat.add_zero]
    exact Rat.add_comm _ _
theorem sR_rev (l : List QP) : sR l.reverse = sR l := by
  induction l with
  | nil => rfl
  | cons q l ih =>
    rw [List.reverse_cons, sR_app, ih]
    simp only [sR, Rat.add_zero]
    exact Rat.add_comm _ _
theorem sL_rev (l : List QP) : sL l.reverse = sL l := by
  induction l with
  | nil => rfl
  | cons q l ih =>
    rw [List.reverse_cons, sL_app, ih]
    simp only [sL, Rat.add_zero]
    exact Rat.add_comm _ _
theorem lt_rev (l : List QP) : lt l.reverse = lt l := by
  unfold lt
  rw [sA_rev, sR_rev, sL_rev]
theorem kr1_ok {d d1 tq bk mo : D} {l : List D} (e1 : B__law_tour [.lst l.reverse] = .ok bk [none]) (e2 : B__law_parts [d, .int 5] = .ok mo [some d1, none]) (n : Option D) :
    kr1 [some d, some (.lst l), some tq, n, n, n, n, n, n, n, n, n] = .ok .nx [some d1, some (.lst l), some tq, some bk, some mo, n, n, n, n, n, n, n] := by
  simp [kr1, e1, e2, gTs]
theorem kr2_ok {r0 r1 r4 : Option D} {qb qs : List QP} (hl : lt qb = lt qs) (n : Option D) :
    kr2 [r0, r1, some (tour qs), some (tour qb), r4, n, n, n, n, n, n, n] = .ok .nx [r0, r1, some (tour qs), some (tour qb), r4, n, n, n, n, n, n, n] := by
  have ha : sA qb = sA qs := congrArg Prod.fst hl
  have c1 := fun r => oNY_same (tb := T3b) (l := [rt (sA qs), spotD (lt qs)]) (r := r) (fun x m => by
    rcases List.mem_cons.mp m with e | m
    · rw [e, eqY_rt rfl]; simp
    · rcases List.mem_cons.mp m with e | m
      · rw [e]; exact eqY_st rfl _ _
      · exact absurd m (by simp))
  have c2 := tour_eq qb qs
  have c3 := eqL_pairs (tb := T3b) rfl qb qs
  have c4 : ∀ r, oET T3b ["int"] [0, 1, 2] (tour qb) (tour qs) r = .ok (.bl (decide (qb = qs))) r := fun r => by
    simp [oET, oW, rk, c2]
  have c5 : ∀ r, oEY 1 T3b ["int"] [0, 1, 2] (.tup (qb.map pairD)) (.tup (qs.map pairD)) r = .ok (.bl (decide (qb = qs))) r := fun r => by
    simp [oEY, c3]
  have c6 : ∀ (b : Bool) r, oNW T3b ["int"] [0, 1, 2] pNe (.bl b) (.bl b) r = .ok (.bl false) r := fun b r => by
    show liftO (pNe (.bl b) (.bl b)) r = _
    rw [pNe_bl]; simp
  simp [kr2, ha, hl, c1, c4, c5, c6, show 2 ≤ big by unfold big; omega]
theorem kr3_ok {r0 r1 r2 r3 : Option D} {mo ot : D} (e : B__law_tour [mo] = .ok ot [none]) (n : Option D) : kr3 [r0, r1, r2, r3, some mo, n, n, n, n, n, n, n] = .ok .nx [r0, r1, r2, r3, some mo, some ot, n, n, n, n, n, n] := by
  simp [kr3, e]
theorem kr4_ok {r0 r1 r3 r4 : Option D} {q1 q2 q3 : List QP} (e : B_Tour_joined [tour q1, tour q2] = .ok (tour q3) [none, none]) (n : Option D) : kr4 [r0, r1, some (tour q1), r3, r4, some (tour q2), n, n, n, n, n, n] = .ok .nx [r0, r1, some (tour q1), r3, r4, some (tour q2), some (tour q3), n, n, n, n, n] := by
  simp [kr4, permL, e]
theorem kr5_ok {r0 r3 : Option D} {l m : List D} {q1 q2 : List QP} (e : B__law_tour [.lst (l ++ m)] = .ok (tour (q1 ++ q2)) [none]) (hb : l.length + m.length ≤ big) (ea : B_Ratio___add__ [rt (sA q1), rt (sA q2)] = .ok (rt (sA (q1 ++ q2))) [none, none]) (es : B_Step___add__ [spotD (lt q1), spotD (lt q2)] = .ok (spotD (lt (q1 ++ q2))) [none, none]) (n : Option D) :
    kr5 [r0, some (.lst l), some (tour q1), r3, some (.lst m), some (tour q2), some (tour (q1 ++ q2)), n, n, n, n, n] = .ok .nx [r0, some (.lst l), some (tour q1), r3, some (.lst m), some (tour q2), some (tour (q1 ++ q2)), n, n, n, n, n] := by
  have c2 := tour_eq (q1 ++ q2) (q1 ++ q2)
  have c1 : ∀ r, oNW T3b ["int"] [0, 1, 2] pNe (tour (q1 ++ q2)) (tour (q1 ++ q2)) r = .ok (.bl false) r := fun r => by
    simp [oNW, rk, c2, negO]
  have c3 := ne_rt (tb := T3b) rfl (sA (q1 ++ q2)) (sA (q1 ++ q2))
  have c4 : ∀ r, oNW T3b ["int"] [0, 1, 2] pNe (spotD (lt (q1 ++ q2))) (spotD (lt (q1 ++ q2))) r = .ok (.bl false) r := fun r => ne_st rfl _ _ r
  have w1 := oW_rt (tb := [(0, B_Ratio___add__), (1, B_Step___add__)]) (ts := ["int"]) (cs := [0, 1]) (p := pAdd) rfl rfl ea
  have w2 : ∀ r, oW [(0, B_Ratio___add__), (1, B_Step___add__)] ["int"] [0, 1] pAdd (spotD (lt q1)) (spotD (lt q2)) r = .ok (spotD (lt (q1 ++ q2))) r := fun r => by
    simp only [spotD] at es ⊢
    simp [oW, rk, es]
  have w3 : ∀ r, oW [(0, B_Ratio___add__), (1, B_Step___add__)] ["int"] [0, 1] pAdd (.lst l) (.lst m) r = .ok (.lst (l ++ m)) r := fun r => by
    show liftO (pAdd (.lst l) (.lst m)) r = _
    simp [pAdd, hb]
  simp [kr5, w1, w2, w3, e, c1, c3, c4]
theorem kr6_ok {d d1 d2 : D} {x y : Int} {r1 r2 r3 r4 r5 r6 : Option D} (e1 : B__law_draw [d, .int 9] = .ok (.int x) [some d1, none]) (e2 : B__law_draw [d1, .int 9] = .ok (.int y) [some d2, none]) (n : Option D) :
    kr6 [some d, r1, r2, r3, r4, r5, r6, n, n, n, n, n] = .ok .nx [some d2, r1, r2, r3, r4, r5, r6, some (.int (1 + x)), some (.int (1 + y)), n, n, n] := by
  simp [kr6, oW_int, e1, e2, itemsOf, gTs, show 2 ≤ big by unfold big; omega]
def scl (k m : Int) (p : Part) : Part := ⟨p.a * m, p.b * k, p.c, p.d⟩
theorem kr7_ok {ps : List Part} {k m : Int} {t9 : D} {r0 r2 r3 r4 r5 r6 : Option D} (ho : ∀ p ∈ ps, POk 999 p) (hk : 0 < k ∧ k ≤ 9) (hm : 0 < m ∧ m ≤ 9) (hb : ps.length ≤ big) (e : B__law_tour [.lst ((ps.map (scl k m)).map pD)] = .ok t9 [none]) :
    kr7 [r0, some (.lst (ps.map pD)), r2, r3, r4, r5, r6, some (.int k), some (.int m), none, none, none] = .ok .nx [r0, some (.lst (ps.map pD)), r2, r3, r4, r5, r6, some (.int k), some (.int m), some t9, none, none] := by
  obtain ⟨r1, ⟨y10, y11, rfl⟩, e1⟩ := lc_map (vs := [10, 11]) (g := gT [(gN 10), (gN 11)]) (t := tY) (f := eN pTup (aCons (eN pTup (aCons (eB (oW [(0, B_Ratio___mul__)] ["int"] [0, 1] pMul) (eB (oP pIx) (eV 10) (eK (.int 0))) (eV 8)) (aCons (eB (oW [(0, B_Ratio___mul__)] ["int"] [0, 1] pMul) (eB (oP pIx) (eV 10) (eK (.int 1))) (eV 7)) aNil))) (aCons (eV 11) aNil))) pD (fun p => pD (scl k m p)) (fun r => ∃ y10 y11, r = [r0, some (.lst (ps.map pD)), r2, r3, r4, r5, r6, some (.int k), some (.int m), none, y10, y11]) ps (fun p hm' r ⟨y10, y11, er⟩ => by
    subst er
    have m1 := pMul_int (mulB_right (i := p.a) (j := m) (by omega))
    have m2 := pMul_int (mulB_right (i := p.b) (j := k) (by omega))
    refine ⟨[r0, some (.lst (ps.map pD)), r2, r3, r4, r5, r6, some (.int k), some (.int m), none, some (.tup [.int p.a, .int p.b]), some (.tup [.int p.c, .int p.d])], [r0, some (.lst (ps.map pD)), r2, r3, r4, r5, r6, some (.int k), some (.int m), none, some (.tup [.int p.a, .int p.b]), some (.tup [.int p.c, .int p.d])], by simp [wipeE, pD, itemsOf, gTs], rfl, by simp [oW_int, m1, m2, pD, scl, show 2 ≤ big by unfold big; omega], _, _, rfl⟩) [r0, some (.lst (ps.map pD)), r2, r3, r4, r5, r6, some (.int k), some (.int m), none, none, none] ⟨none, none, rfl⟩
  have em : ps.map (fun p => pD (scl k m p)) = (ps.map (scl k m)).map pD := by simp
  rw [em] at e1
  have hb2 : (ps.map pD).length ≤ big := by simpa using hb
  simp only [kr7, sAs, eCd, aCons, aNil, eLc, itL, eV]
  generalize (ps.map (scl k m)).map pD = Q at *
  generalize ps.map pD = P at *
  simp [it_lst, hb2, e1, lcOut, backE, e]
theorem kr8_ok {r0 r1 r3 r4 r5 r6 r7 r8 : Option D} {q9 qs : List QP} (hA : sA q9 = sA qs) (hS : sR q9 * sL q9 = sR qs * sL qs) (n : Option D) :
    kr8 [r0, r1, some (tour qs), r3, r4, r5, r6, r7, r8, some (tour q9), n, n] = .ok .nx [r0, r1, some (tour qs), r3, r4, r5, r6, r7, r8, some (tour q9), n, n] := by
  have c1 := ne_rt (tb := T3b) rfl (sA qs) (sA qs)
  have c2 := ne_rt (tb := T3b) rfl (sR qs * sL qs) (sR qs * sL qs)
  have s1 := sq_ok q9
  rw [hS] at s1
  have s2 := sq_ok qs
  simp [kr8, hA, c1, s1, s2, c2]
theorem kr9_ok {r0 r1 r3 r4 r5 r6 : Option D} {q9 qs : List QP} {k m : Int} {t9 x9 t x : Rat} (e9 : spotD (lt q9) = stp t9 [x9]) (e0 : spotD (lt qs) = stp t [x]) (h1 : B_Ratio___sub__ [rt t9, rt x9] = .ok (rt (t9 - x9)) [none, none]) (h2 : B_Ratio___sub__ [rt t, rt x] = .ok (rt (t - x)) [none, none]) (h3 : B_Ratio___init__ [.ob 0 [], .int k, .int m] = .ok .non [some (rt (Rat.divInt k m)), none, none])
    (h4 : B_Ratio___mul__ [rt (t - x), rt (Rat.divInt k m)] = .ok (rt (t9 - x9)) [none, none]) (n : Option D) :
    kr9 [r0, r1, some (tour qs), r3, r4, r5, r6, some (.int k), some (.int m), some (tour q9), n, n] = .ok (.rt (.bl true)) [r0, r1, some (tour qs), r3, r4, r5, r6, some (.int k), some (.int m), some (tour q9), n, n] := by
  have w1 := oW_rt (tb := [(0, B_Ratio___sub__)]) (ts := ["int"]) (cs := [0, 1]) (p := pSub) rfl rfl h1
  have w2 := oW_rt (tb := [(0, B_Ratio___sub__)]) (ts := ["int"]) (cs := [0, 1]) (p := pSub) rfl rfl h2
  have w3 := oW_rt (tb := [(0, B_Ratio___mul__)]) (ts := ["int"]) (cs := [0, 1]) (p := pMul) rfl rfl h4
  have c : ∀ r, oET T3b ["int"] [0, 1, 2] (rt (t9 - x9)) (rt (t9 - x9)) r = .ok (.bl true) r := fun r => by
    simp [oET, oW, rk, eq_ok]
  simp [kr9, e9, e0, w1, w2, h3, w3, c]
end Kw

namespace Kw
open PySem PySem.Spec PyProof.Rows L2 Z
theorem POk.up {p : Part} (h : POk 999 p) : POk 9000 p := ⟨h.a0, Int.le_trans h.a1 (by decide), h.b0, Int.le_trans h.b1 (by decide), h.c0, h.c1, h.d0, h.d1⟩
theorem joined_ok {q1 q2 : List QP} {k : Nat} (h1 : 1 ≤ q1.length) (hq : ∀ q ∈ q1 ++ q2, QOk 14 q) (hpos : ∀ q ∈ q1 ++ q2, 0 < q.2) (hp : PB k (q1 ++ q2)) (hm : 28 ≤ k) (hk : k ≤ 868) (h12 : (q1 ++ q2).length ≤ 12) : B_Tour_joined [tour q1, tour q2] = .ok (tour (q1 ++ q2)) [none, none] := by
  have n := need_tour_ok q2 (.str "other")
  have tk := tour_ok (x1 := .tup ((q1 ++ q2).map pairD)) rfl (by simp [B_is_listed, mkB, b_is_listed, kAny, kT, tyN]) (by rw [pLen_tup]; simp) hq hpos hp hm (by omega) hk (by simp; omega) h12
  have ad : pAdd (.tup (q1.map pairD)) (.tup (q2.map pairD)) = some (.tup ((q1 ++ q2).map pairD)) := by
    cases q1 with
    | nil => simp at h1
    | cons q l =>
      have hb : l.length + 1 + q2.length ≤ big := by
        simp at h12
        unfold big
        omega
      simp [pAdd, hb]
  generalize (q1 ++ q2).map pairD = Q at *
  simp [B_Tour_joined, mkB, b_Tour_joined, n, ad, tk]
theorem pr_scl {k m : Int} {p : Part} (hk : 0 < k) (hm : 0 < m) (h : POk 999 p) : (pr (scl k m p)).2 = (pr p).2 ∧ (pr (scl k m p)).1 = (pr p).1 * ((m : Rat) / (k : Rat)) := by
  refine ⟨rfl, ?_⟩
  show Rat.divInt (p.a * m) (p.b * k) = Rat.divInt p.a p.b * _
  rw [← Rat.divInt_eq_div, Rat.divInt_mul_divInt]
theorem scl_sums {k m : Int} (hk : 0 < k) (hm : 0 < m) : ∀ {ps : List Part}, (∀ p ∈ ps, POk 999 p) → sA ((ps.map (scl k m)).map pr) = sA (ps.map pr) ∧ sR ((ps.map (scl k m)).map pr) = sR (ps.map pr) * ((k : Rat) / (m : Rat)) ∧ sL ((ps.map (scl k m)).map pr) = sL (ps.map pr) * ((m : Rat) / (k : Rat))
  | [], _ => ⟨rfl, (Rat.zero_mul _).symm, (Rat.zero_mul _).symm⟩
  | p :: ps, ho => by
    obtain ⟨h1, h2, h3⟩ := scl_sums hk hm (ps := ps) fun q mm => ho q (List.mem_cons_of_mem _ mm)
    obtain ⟨e2, e1⟩ := pr_scl hk hm (ho p (by simp))
    have hp := (pr_pos (ho p (by simp)).up).1
    have pk := cast_pos hk
    have pm := cast_pos hm
    simp only [List.map_cons, sA, sR, sL]
    rw [h1, h2, h3, e2, e1]
    generalize (pr p).1 = u at *
    generalize (pr p).2 = v at *
    refine ⟨rfl, ?_, ?_⟩
    · have : v / (u * ((m : Rat) / (k : Rat))) = v / u * ((k : Rat) / (m : Rat)) := by grind
      rw [this]
      grind
    · grind
theorem scl_ok {k m : Int} {p : Part} (hk : 0 < k ∧ k ≤ 9) (hm : 0 < m ∧ m ≤ 9) (h : POk 999 p) : POk 9000 (scl k m p) := by
  refine ⟨Int.mul_pos h.a0 hm.1, ?_, Int.mul_pos h.b0 hk.1, ?_, h.c0, h.c1, h.d0, h.d1⟩
  · have := Int.mul_le_mul h.a1 hm.2 (by omega) (by decide)
    exact Int.le_trans this (by decide)
  · have := Int.mul_le_mul h.b1 hk.2 (by omega) (by decide)
    exact Int.le_trans this (by decide)
theorem spot_bd {k : Nat} {x : T3} (hr : Bd k x.2.1) (hl : Bd k x.2.2) : Bd (k + k + 3) ((x.2.1 + x.2.2) * hf) ∧ Bd (k + k + 3) ((x.2.2 - x.2.1) * hf) :=
  ⟨((hr.add2 hl).mul2 hf_bd).mono (by omega), ((hl.sub2 hr).mul2 hf_bd).mono (by omega)⟩
theorem end_bd {ps : List Part} (ho : ∀ q ∈ ps, POk 9000 q) : Bd (20 * ps.length + 1) (sA (ps.map pr)) ∧ Bd (20 * ps.length + 1) (sR (ps.map pr)) ∧ Bd (20 * ps.length + 1) (sL (ps.map pr)) := by
  have h := PB_of ho ps.length
  rwa [← List.map_take, List.take_of_length_le (Nat.le_refl _)] at h
theorem kin_ok {n : Nat} {d : D} {ps : List Part} (h : Pen n d) (hn : n ≤ 2 ^ 8) (ho : ∀ q ∈ ps, POk 999 q) (h1 : 1 ≤ ps.length) (h7 : ps.length ≤ 7) : ∃ d', B__law_kin_right [d, .lst (ps.map pD), tour (ps.map pr)] = .ok (.bl true) [some d', none, none] ∧ Pen (n + 33) d' := by
  have hO : ∀ q ∈ ps, POk 9000 q := fun q m => (ho q m).up
  have e1 := law_tour_ok (ps := ps.reverse) (fun q m => hO q (by simpa using m)) (by simpa using h1) (by simp; omega)
  rw [List.map_reverse, List.map_reverse] at e1
  obtain ⟨ps2, d1, e2, l2, l5, o2, p1⟩ := parts_ok (m := 5) h (by omega) (by decide) (by decide)
  have l5' : ps2.length ≤ 5 := l5
  have hO2 : ∀ q ∈ ps2, POk 9000 q := fun q m => (o2 q m).up
  have e3 := law_tour_ok hO2 l2 (by omega)
  have hO3 : ∀ q ∈ ps ++ ps2, POk 9000 q := fun q m => by
    rcases List.mem_append.mp m with m | m
    · exact hO q m
    · exact hO2 q m
  have l12 : (ps ++ ps2).length ≤ 12 := by rw [List.length_append]; omega
  have e4 := law_tour_ok hO3 (by rw [List.length_append]; omega) l12
  obtain ⟨qk, qp⟩ := qs_ok hO3
  have hpb := (PB_of hO3).mono (by omega : _ ≤ 241)
  rw [List.map_append] at qk qp hpb
  have e5 := joined_ok (by simpa using h1) qk qp hpb (by omega) (by omega) (by simpa using l12)
  obtain ⟨x, d2, e6, x0, x1, p2⟩ := draw_ok (m := 9) p1 (by omega) (by decide) (by decide)
  obtain ⟨y, d3, e7, y0, y1, p3⟩ := draw_ok (m := 9) p2 (by omega) (by decide) (by decide)
  have hk : 0 < 1 + x ∧ 1 + x ≤ 9 := by omega
  have hm : 0 < 1 + y ∧ 1 + y ≤ 9 := by omega
  have o9 : ∀ q ∈ ps.map (scl (1 + x) (1 + y)), POk 9000 q := fun q m => by
    obtain ⟨p, hp, rfl⟩ := List.mem_map.mp m
    exact scl_ok hk hm (ho p hp)
  have e8 := law_tour_ok o9 (by simpa using h1) (by simp; omega)
  obtain ⟨v1, v2, v3⟩ := scl_sums hk.1 hm.1 ho
  have b1 := end_bd hO
  have b2 := end_bd hO2
  have b9 := end_bd o9
  rw [List.length_map] at b9
  have bA : Bd 241 (sA (ps.map pr)) := b1.1.mono (by omega)
  have bR : Bd 241 (sR (ps.map pr)) := b1.2.1.mono (by omega)
  have bL : Bd 241 (sL (ps.map pr)) := b1.2.2.mono (by omega)
  have bA2 : Bd 241 (sA (ps2.map pr)) := b2.1.mono (by omega)
  have bR2 : Bd 241 (sR (ps2.map pr)) := b2.2.1.mono (by omega)
  have bL2 : Bd 241 (sL (ps2.map pr)) := b2.2.2.mono (by omega)
  have bR9 : Bd 241 (sR ((ps.map (scl (1 + x) (1 + y))).map pr)) := b9.2.1.mono (by omega)
  have bL9 : Bd 241 (sL ((ps.map (scl (1 + x) (1 + y))).map pr)) := b9.2.2.mono (by omega)
  have hr : lt (ps.map pr).reverse = lt (ps.map pr) := lt_rev _
  have ea := add_ok bA bA2 (by omega) (by omega)
  rw [← sA_app] at ea
  obtain ⟨t1, t2⟩ := spot_bd (x := lt (ps.map pr)) bR bL
  obtain ⟨u1, u2⟩ := spot_bd (x := lt (ps2.map pr)) bR2 bL2
  have es := step_add1 t1 u1 t2 u2 (by omega) (by omega)
  have f1 : ((lt (ps.map pr)).2.1 + (lt (ps.map pr)).2.2) * hf + ((lt (ps2.map pr)).2.1 + (lt (ps2.map pr)).2.2) * hf = ((lt (ps.map pr ++ ps2.map pr)).2.1 + (lt (ps.map pr ++ ps2.map pr)).2.2) * hf := by
    simp only [lt, sR_app, sL_app]; grind
  have f2 : ((lt (ps.map pr)).2.2 - (lt (ps.map pr)).2.1) * hf + ((lt (ps2.map pr)).2.2 - (lt (ps2.map pr)).2.1) * hf = ((lt (ps.map pr ++ ps2.map pr)).2.2 - (lt (ps.map pr ++ ps2.map pr)).2.1) * hf := by
    simp only [lt, sR_app, sL_app]; grind
  rw [f1, f2] at es
  have es' : B_Step___add__ [spotD (lt (ps.map pr)), spotD (lt (ps2.map pr))] = .ok (spotD (lt (ps.map pr ++ ps2.map pr))) [none, none] := es
  obtain ⟨w1, w2⟩ := spot_bd (x := lt ((ps.map (scl (1 + x) (1 + y))).map pr)) bR9 bL9
  have g1 := sub_ok w1 w2 (by omega) (by omega)
  have g2 := sub_ok t1 t2 (by omega) (by omega)
  have bk : Bd 20 (Rat.divInt (1 + x) (1 + y)) := Bd.of hm.1 (by omega) (by omega)
  have g3 := B_ratio (n := 1 + x) (d := 1 + y) hm.1 (Nat.lt_of_lt_of_le (show (1 + y).natAbs < 2 ^ 20 by omega) (Nat.pow_le_pow_right (by omega) (by omega)))
  have g4 := mul_ok (t1.sub2 t2) (bk.mono (by omega)) (by omega) (by omega)
  have f3 : (((lt (ps.map pr)).2.1 + (lt (ps.map pr)).2.2) * hf - ((lt (ps.map pr)).2.2 - (lt (ps.map pr)).2.1) * hf) * Rat.divInt (1 + x) (1 + y) = ((lt ((ps.map (scl (1 + x) (1 + y))).map pr)).2.1 + (lt ((ps.map (scl (1 + x) (1 + y))).map pr)).2.2) * hf - ((lt ((ps.map (scl (1 + x) (1 + y))).map pr)).2.2 - (lt ((ps.map (scl (1 + x) (1 + y))).map pr)).2.1) * hf := by
    rw [Rat.divInt_eq_div]
    simp only [lt, v2, v3, hf_eq]
    grind
  rw [f3] at g4
  have hsq : sR ((ps.map (scl (1 + x) (1 + y))).map pr) * sL ((ps.map (scl (1 + x) (1 + y))).map pr) = sR (ps.map pr) * sL (ps.map pr) := by
    rw [v2, v3]
    have pk := cast_pos hk.1
    have pm := cast_pos hm.1
    grind
  have hbig : ps.length ≤ big := by unfold big; omega
  have s1 := kr1_ok (tq := tour (ps.map pr)) (l := ps.map pD) e1 e2 none
  have s2 := kr2_ok (r0 := some d1) (r1 := some (.lst (ps.map pD))) (r4 := some (.lst (ps2.map pD))) hr none
  have s3 := kr3_ok (r0 := some d1) (r1 := some (.lst (ps.map pD))) (r2 := some (tour (ps.map pr))) (r3 := some (tour (ps.map pr).reverse)) e3 none
  have s4 := kr4_ok (r0 := some d1) (r1 := some (.lst (ps.map pD))) (r3 := some (tour (ps.map pr).reverse)) (r4 := some (.lst (ps2.map pD))) e5 none
  have e4' : B__law_tour [.lst (ps.map pD ++ ps2.map pD)] = .ok (tour (ps.map pr ++ ps2.map pr)) [none] := by
    rw [← List.map_append, ← List.map_append]; exact e4
  have s5 := kr5_ok (r0 := some d1) (r3 := some (tour (ps.map pr).reverse)) e4' (by simp; unfold big; omega) ea es' none
  have s6 := kr6_ok (r1 := some (.lst (ps.map pD))) (r2 := some (tour (ps.map pr))) (r3 := some (tour (ps.map pr).reverse)) (r4 := some (.lst (ps2.map pD))) (r5 := some (tour (ps2.map pr))) (r6 := some (tour (ps.map pr ++ ps2.map pr))) e6 e7 none
  have s7 := kr7_ok (r0 := some d3) (r2 := some (tour (ps.map pr))) (r3 := some (tour (ps.map pr).reverse)) (r4 := some (.lst (ps2.map pD))) (r5 := some (tour (ps2.map pr))) (r6 := some (tour (ps.map pr ++ ps2.map pr))) ho hk hm hbig e8
  have s8 := kr8_ok (r0 := some d3) (r1 := some (.lst (ps.map pD))) (r3 := some (tour (ps.map pr).reverse)) (r4 := some (.lst (ps2.map pD))) (r5 := some (tour (ps2.map pr))) (r6 := some (tour (ps.map pr ++ ps2.map pr))) (r7 := some (.int (1 + x))) (r8 := some (.int (1 + y))) v1 hsq none
  have s9 := kr9_ok (r0 := some d3) (r1 := some (.lst (ps.map pD))) (r3 := some (tour (ps.map pr).reverse)) (r4 := some (.lst (ps2.map pD))) (r5 := some (tour (ps2.map pr))) (r6 := some (tour (ps.map pr ++ ps2.map pr))) (q9 := (ps.map (scl (1 + x) (1 + y))).map pr) (qs := ps.map pr) rfl rfl g1 g2 g3 g4 none
  have run := sSeq_nx (g := sSeq kr2 (sSeq kr3 (sSeq kr4 (sSeq kr5 (sSeq kr6 (sSeq kr7 (sSeq kr8 kr9))))))) s1
  rw [sSeq_nx s2, sSeq_nx s3, sSeq_nx s4, sSeq_nx s5, sSeq_nx s6, sSeq_nx s7, sSeq_nx s8, s9] at run
  have z : mkB 3 12 [0] (sSeq kr1 (sSeq kr2 (sSeq kr3 (sSeq kr4 (sSeq kr5 (sSeq kr6 (sSeq kr7 (sSeq kr8 kr9)))))))) [d, .lst (ps.map pD), tour (ps.map pr)] = _ := mkB_run (n := 3) (m := 12) (io := [0]) (r0 := [some d, some (.lst (ps.map pD)), some (tour (ps.map pr)), none, none, none, none, none, none, none, none, none]) rfl rfl run
  rw [keepE3'] at z
  refine ⟨d3, ?_, p3⟩
  rw [B__law_kin_right, krs]
  exact z
end Kw

namespace Kw
open PySem PySem.Spec PyProof.Rows L2 Z
def sp1 : M Fl := (sEx (eCd B_need_tour [] (aCons (eV 0) (aCons (eK (.str "tour")) aNil))))
def sp2 : M Fl := (sIf (tOn (tNo (tV (eCd B_is_ratio [] (aCons (eV 1) aNil)))) (tOn (tV (eB (oP pLt) (ePr [(0, B_Ratio_sign)] (eCd B_Ratio_of [] (aCons (eV 1) aNil))) (eK (.int 0)))) (tV (eMd [(0, B_Ratio_is_below)] [] (eFl [(2, 2)] (eV 0)) (aCons (eV 1) aNil))))) sNo sNil)
def sp3 : M Fl := (sParG 2 3 (eCd B_Ratio_of [] (aCons (eV 1) aNil)))
def sp4 : M Fl := (sFor (itL (eFl [(2, 0)] (eV 0))) (gT [(gN 4), (gN 5)]) (sSeq (sAs 6 (eIf (tV (eMd [(0, B_Ratio_is_below)] [] (eV 2) (aCons (eV 5) aNil))) (eV 2) (eV 5))) (sSeq (sApp 3 (eN pTup (aCons (eV 4) (aCons (eV 6) aNil)))) (sAs 2 (eB (oW [(0, B_Ratio___sub__)] ["int"] [0, 1] pSub) (eV 2) (eV 6))))))
def sp5 : M Fl := (sAs 7 (eB (oP pIx) (eCd B_lights_along [] (aCons (eV 3) aNil)) (eU (oU pNeg) (eK (.int 1)))))
def sp6 : M Fl := (sRet (eCd B_lit_spot [] (aCons (eB (oP pIx) (eV 7) (eK (.int 1))) (aCons (eB (oP pIx) (eV 7) (eK (.int 2))) aNil))))
theorem sps : b_spot_at = (sSeq sp1 (sSeq sp2 (sSeq sp3 (sSeq sp4 (sSeq sp5 sp6))))) := rfl
def lapS : M Fl := (sSeq (sAs 6 (eIf (tV (eMd [(0, B_Ratio_is_below)] [] (eV 2) (aCons (eV 5) aNil))) (eV 2) (eV 5))) (sSeq (sApp 3 (eN pTup (aCons (eV 4) (aCons (eV 6) aNil)))) (sAs 2 (eB (oW [(0, B_Ratio___sub__)] ["int"] [0, 1] pSub) (eV 2) (eV 6)))))
theorem lapS_ok {k : Nat} {a : Rat} {q : QP} {l : List D} (ha : Bd k a) (hq : Bd k q.2) (h0 : 0 < k) (hk : k ≤ 3490) (hl : l.length < sizeLine) (r0 r1 y6 y7 : Option D) :
    lapS [r0, r1, some (rt a), some (.lst l), some (rt q.1), some (rt q.2), y6, y7] = .ok .nx [r0, r1, some (rt (a - mn a q.2)), some (.lst (l ++ [pairD (q.1, mn a q.2)])), some (rt q.1), some (rt q.2), some (rt (mn a q.2)), y7] := by
  have b := below_ok ha hq h0 hk
  by_cases h : a < q.2
  · have e : mn a q.2 = a := by unfold mn; rw [if_pos h]
    have s := sub_ok ha ha h0 hk
    have w := oW_rt (tb := [(0, B_Ratio___sub__)]) (ts := ["int"]) (cs := [0, 1]) (p := pSub) rfl rfl s
    rw [e]
    simp [lapS, b, h, w, hl, pairD, show 2 ≤ big by unfold big; omega]
  · have e : mn a q.2 = q.2 := by unfold mn; rw [if_neg h]
    have s := sub_ok ha hq h0 hk
    have w := oW_rt (tb := [(0, B_Ratio___sub__)]) (ts := ["int"]) (cs := [0, 1]) (p := pSub) rfl rfl s
    rw [e]
    simp [lapS, b, h, w, hl, pairD, show 2 ≤ big by unfold big; omega]
theorem spot_ok {x : D} {a : Rat} {m k j : Nat} {qs : List QP} (hx1 : B_is_ratio [x] = .ok (.bl true) [none]) (hx2 : B_Ratio_of [x] = .ok (rt a) [none]) (hx3 : B_Ratio_is_below [rt (sA qs), x] = .ok (.bl false) [none, none]) (h0 : 0 ≤ a) (hq : ∀ q ∈ qs, QOk 14 q) (hc : ∀ q ∈ cut qs a, QOk m q) (hpb : PB k (cut qs a)) (ha : Bd j a) (hjk : j + k + 1 ≤ 3400) (hj : 14 ≤ j) (hm : 2 * m ≤ k) (hm0 : 0 < m) (hk : k ≤ 868) (hl : qs.length ≤ 12) :
    B_spot_at [tour qs, x] = .ok (spotD (lt (cut qs a))) [none, none] := by
  have n := need_tour_ok qs (.str "tour")
  have sg := sign_ok a
  have sn : ¬ a.num.sign < 0 := fun z => by
    have := (sg_neg a).mp z
    grind
  have s1 : sp1 [some (tour qs), some x, none, none, none, none, none, none] = .ok .nx [some (tour qs), some x, none, none, none, none, none, none] := by simp [sp1, n]
  have s2 : sp2 [some (tour qs), some x, none, none, none, none, none, none] = .ok .nx [some (tour qs), some x, none, none, none, none, none, none] := by
    generalize a.num.sign = sgn at *
    simp [sp2, hx1, hx2, hx3, sg, sn]
  have s3 : sp3 [some (tour qs), some x, none, none, none, none, none, none] = .ok .nx [some (tour qs), some x, some (rt a), some (.lst []), none, none, none, none] := by simp [sp3, hx2]
  obtain ⟨r3, ⟨y4, y5, y6, rfl⟩, e3⟩ := for_map (g := gT [(gN 4), (gN 5)]) (b := lapS) pairD (fun pre r => ∃ y4 y5 y6, r = [some (tour qs), some x, some (rt (a - sA (cut pre a))), some (.lst ((cut pre a).map pairD)), y4, y5, y6, none]) qs
    (fun pre z post e r ⟨y4, y5, y6, er⟩ => by
      have hlen := congrArg List.length e
      simp at hlen
      have et : qs.take pre.length = pre := by rw [e]; simp
      have hb := (hpb pre.length).1
      rw [← cut_take, et] at hb
      have el := lapS_ok (a := a - sA (cut pre a)) (q := z) (l := (cut pre a).map pairD) (ha.sub2 hb) ((hq z (by rw [e]; simp)).b2.mono (by omega)) (by omega) (by omega) (Nat.lt_trans (by simp; omega) size_big) (some (tour qs)) (some x) y6 none
      have ec := cut_snoc z pre a
      have e4 : a - sA (cut pre a) - mn (a - sA (cut pre a)) z.2 = a - sA (cut (pre ++ [z]) a) := by
        rw [ec, sA_app]
        simp only [sA, Rat.add_zero]
        grind
      have e5 : (cut pre a).map pairD ++ [pairD (z.1, mn (a - sA (cut pre a)) z.2)] = (cut (pre ++ [z]) a).map pairD := by
        rw [ec, List.map_append]; rfl
      rw [e4, e5] at el
      subst er
      exact ⟨_, _, by simp [pairD, itemsOf, gTs], el, _, _, _, rfl⟩) qs [] rfl [some (tour qs), some x, some (rt (a - sA (cut [] a))), some (.lst ((cut [] a).map pairD)), none, none, none, none] ⟨none, none, none, rfl⟩
  have e0 : a - sA (cut [] a) = a := by simp only [cut, sA]; grind
  have e00 : (cut [] a).map pairD = [] := rfl
  rw [e0, e00] at e3
  have s4 : sp4 [some (tour qs), some x, some (rt a), some (.lst []), none, none, none, none] = .ok .nx [some (tour qs), some x, some (rt (a - sA (cut qs a))), some (.lst ((cut qs a).map pairD)), y4, y5, y6, none] := by
    have : sp4 = sFor (itL (eFl [(2, 0)] (eV 0))) (gT [(gN 4), (gN 5)]) lapS := rfl
    rw [this]
    simp [it_tup, e3]
  have li := lights_ok (x0 := .lst ((cut qs a).map pairD)) rfl hc hpb hm hm0 (by omega) (by rw [cut_len]; omega)
  have la : pIx (.lst ((lig (cut qs a)).map t3)) (.int (-1)) = some (t3 (lt (cut qs a))) := by
    rw [lig_last, List.map_append]
    exact ix_last_l _ _
  have s5 : sp5 [some (tour qs), some x, some (rt (a - sA (cut qs a))), some (.lst ((cut qs a).map pairD)), y4, y5, y6, none] = .ok .nx [some (tour qs), some x, some (rt (a - sA (cut qs a))), some (.lst ((cut qs a).map pairD)), y4, y5, y6, some (t3 (lt (cut qs a)))] := by
    generalize (cut qs a).map pairD = C at *
    generalize (lig (cut qs a)).map t3 = LL at *
    simp [sp5, li, la]
  have hb := hpb (cut qs a).length
  rw [List.take_of_length_le (Nat.le_refl _)] at hb
  have lo : B_lit_spot [rt (sR (cut qs a)), rt (sL (cut qs a))] = .ok (spotD (lt (cut qs a))) [none, none] := lit_ok hb.2.1 hb.2.2 (by omega) hk
  have j1 : pIx (t3 (lt (cut qs a))) (.int 1) = some (rt (sR (cut qs a))) := ix_tup_1 _ _ _
  have j2 : pIx (t3 (lt (cut qs a))) (.int 2) = some (rt (sL (cut qs a))) := ix_tup_2 _ _ _ _
  have s6 : sp6 [some (tour qs), some x, some (rt (a - sA (cut qs a))), some (.lst ((cut qs a).map pairD)), y4, y5, y6, some (t3 (lt (cut qs a)))] = .ok (.rt (spotD (lt (cut qs a)))) [some (tour qs), some x, some (rt (a - sA (cut qs a))), some (.lst ((cut qs a).map pairD)), y4, y5, y6, some (t3 (lt (cut qs a)))] := by
    generalize (cut qs a).map pairD = C at *
    simp [sp6, j1, j2, lo]
  have run := sSeq_nx (g := sSeq sp2 (sSeq sp3 (sSeq sp4 (sSeq sp5 sp6)))) s1
  rw [sSeq_nx s2, sSeq_nx s3, sSeq_nx s4, sSeq_nx s5, s6] at run
  have z : mkB 2 8 [] (sSeq sp1 (sSeq sp2 (sSeq sp3 (sSeq sp4 (sSeq sp5 sp6))))) [tour qs, x] = _ := mkB_run (n := 2) (m := 8) (io := []) (r0 := [some (tour qs), some x, none, none, none, none, none, none]) rfl rfl run
  rw [keepE2] at z
  rw [B_spot_at, sps]
  exact z
theorem zs_app_sums (pre : List QP) (q : QP) (s : Rat) (l : List QP) : sA (pre ++ (q.1, s) :: zs l) = sA pre + s ∧ sR (pre ++ (q.1, s) :: zs l) = sR pre + s / q.1 ∧ sL (pre ++ (q.1, s) :: zs l) = sL pre + s * q.1 := by
  obtain ⟨h1, h2, h3⟩ := zs_sums l
  rw [sA_app, sR_app, sL_app]
  simp only [sA, sR, sL, h1, h2, h3, Rat.add_zero, and_self]
theorem cut_pb {k j : Nat} {pre post : List QP} {q : QP} {s : Rat} (hp : PB k (pre ++ q :: post)) (hs : Bd j s) (hq : Bd 14 q.1) (h0 : 0 < q.1) : PB (k + j + 15) (pre ++ (q.1, s) :: zs post) := fun i => by
  by_cases hi : i ≤ pre.length
  · have h := hp i
    rw [List.take_append_of_le_length hi] at h ⊢
    exact ⟨h.1.mono (by omega), h.2.1.mono (by omega), h.2.2.mono (by omega)⟩
  · have h := hp pre.length
    rw [List.take_left] at h
    have et : (pre ++ (q.1, s) :: zs post).take i = pre ++ (q.1, s) :: zs (post.take (i - pre.length - 1)) := by
      rw [List.take_append, List.take_of_length_le (by omega)]
      congr 1
      obtain ⟨n, hn⟩ : ∃ n, i - pre.length = n + 1 := ⟨i - pre.length - 1, by omega⟩
      rw [hn, List.take_succ_cons, zs_take]
      rfl
    obtain ⟨z1, z2, z3⟩ := zs_app_sums pre q s (post.take (i - pre.length - 1))
    rw [et, z1, z2, z3]
    exact ⟨(h.1.add2 hs).mono (by omega), (h.2.1.add2 (hs.div2 hq h0)).mono (by omega), (h.2.2.add2 (hs.mul2 hq)).mono (by omega)⟩
theorem cut_qok {m : Nat} {pre post : List QP} {q : QP} {s : Rat} (hq : ∀ x ∈ pre ++ q :: post, QOk 14 x) (hs : Bd m s) (h0 : 0 ≤ s) (hm : 14 ≤ m) : ∀ x ∈ pre ++ (q.1, s) :: zs post, QOk m x := fun x mx => by
  have up : ∀ {y : QP}, QOk 14 y → QOk m y := fun h => ⟨h.p1, h.p2, h.b1.mono hm, h.b2.mono hm⟩
  rcases List.mem_append.mp mx with h | h
  · exact up (hq x (by simp [h]))
  · rcases List.mem_cons.mp h with h | h
    · have := hq q (by simp)
      rw [h]
      exact ⟨this.p1, h0, this.b1.mono hm, hs⟩
    · obtain ⟨y, hy, rfl⟩ := List.mem_map.mp h
      have := hq y (by simp [hy])
      exact ⟨this.p1, Rat.le_refl, this.b1.mono hm, Bd.zero (by omega)⟩
end Kw

namespace Kw
open PySem PySem.Spec PyProof.Rows L2 Z
def ar1 : M Fl := (sAs 3 (eCd B__law_lights [] (aCons (eV 1) aNil)))
def ar2 : M Fl := (sFor (itN pRng (aCons (eK (.int 3)) aNil)) (gN 4) (sSeq (sPar [gN 5, gN 6] (aCons (eCo B__law_draw 0 (aCons (eN pLen (aCons (eV 1) aNil)) aNil)) (aCons (eN pTup (aCons (eCo B__law_draw 0 (aCons (eK (.int 7)) aNil)) (aCons (eK (.int 6)) aNil))) aNil))) (sSeq (sTg (gT [(gT [(gN 7), (gN 8)]), (gT [(gN 9), (gN 10), (gN 11)])]) (eN pTup (aCons (eB (oP pIx) (eV 1) (eV 5)) (aCons (eB (oP pIx) (eV 3) (eV 5)) aNil)))) (sSeq (sAs 12 (eN pTup (aCons (eB (oP pMul) (eB (oP pIx) (eV 8) (eK (.int 0))) (eB (oP pIx) (eV 6) (eK (.int 0)))) (aCons (eB (oP pMul) (eB (oP pIx) (eV 8) (eK (.int 1))) (eB (oP pIx) (eV 6) (eK (.int 1)))) aNil)))) (sSeq (sAs 10 (eCd B__law_plus [] (aCons (eV 10) (aCons (eN pTup (aCons (eB (oP pMul) (eB (oP pIx) (eV 12) (eK (.int 0))) (eB (oP pIx) (eV 7) (eK (.int 1)))) (aCons (eB (oP pMul) (eB (oP pIx) (eV 12) (eK (.int 1))) (eB (oP pIx) (eV 7) (eK (.int 0)))) aNil))) aNil)))) (sSeq (sAs 11 (eCd B__law_plus [] (aCons (eV 11) (aCons (eN pTup (aCons (eB (oP pMul) (eB (oP pIx) (eV 12) (eK (.int 0))) (eB (oP pIx) (eV 7) (eK (.int 0)))) (aCons (eB (oP pMul) (eB (oP pIx) (eV 12) (eK (.int 1))) (eB (oP pIx) (eV 7) (eK (.int 1)))) aNil))) aNil)))) (sSeq (sAs 9 (eCd B__law_plus [] (aCons (eV 9) (aCons (eV 12) aNil)))) (sIf (tV (eB (oNW [(1, B_Step___eq__)] ["int"] [0, 1, 2] pNe) (eCk B_spot_at 0 2 [1, 0] [] aNil (aCons (eNd 0 B_Ratio___init__ [] (aCons (eB (oP pIx) (eV 9) (eK (.int 0))) (aCons (eB (oP pIx) (eV 9) (eK (.int 1))) aNil))) (aCons (eV 2) aNil))) (eCd B__law_lit [] (aCons (eV 10) (aCons (eV 11) aNil))))) (sRet (eK (.bl false))) sNil))))))))
def ar3 : M Fl := (sRet (eAnd (eB (oET [(1, B_Step___eq__)] ["int"] [0, 1, 2]) (eCd B_spot_at [] (aCons (eV 2) (aCons (eK (.int 0)) aNil))) (eNd 1 B_Step___init__ [] (aCons (eK (.int 0)) (aCons (eN pLst (aCons (eK (.int 0)) aNil)) aNil)))) (eB (oET [(1, B_Step___eq__)] ["int"] [0, 1, 2]) (eCd B_spot_at [] (aCons (eV 2) (aCons (eFl [(2, 2)] (eV 2)) aNil))) (eFl [(2, 3)] (eV 2)))))
theorem ars : b__law_ages_right = (sSeq ar1 (sSeq ar2 ar3)) := rfl
def ab1 : M Fl := (sPar [gN 5, gN 6] (aCons (eCo B__law_draw 0 (aCons (eN pLen (aCons (eV 1) aNil)) aNil)) (aCons (eN pTup (aCons (eCo B__law_draw 0 (aCons (eK (.int 7)) aNil)) (aCons (eK (.int 6)) aNil))) aNil)))
def ab2 : M Fl := (sTg (gT [(gT [(gN 7), (gN 8)]), (gT [(gN 9), (gN 10), (gN 11)])]) (eN pTup (aCons (eB (oP pIx) (eV 1) (eV 5)) (aCons (eB (oP pIx) (eV 3) (eV 5)) aNil))))
def ab3 : M Fl := (sAs 12 (eN pTup (aCons (eB (oP pMul) (eB (oP pIx) (eV 8) (eK (.int 0))) (eB (oP pIx) (eV 6) (eK (.int 0)))) (aCons (eB (oP pMul) (eB (oP pIx) (eV 8) (eK (.int 1))) (eB (oP pIx) (eV 6) (eK (.int 1)))) aNil))))
def ab4 : M Fl := (sAs 10 (eCd B__law_plus [] (aCons (eV 10) (aCons (eN pTup (aCons (eB (oP pMul) (eB (oP pIx) (eV 12) (eK (.int 0))) (eB (oP pIx) (eV 7) (eK (.int 1)))) (aCons (eB (oP pMul) (eB (oP pIx) (eV 12) (eK (.int 1))) (eB (oP pIx) (eV 7) (eK (.int 0)))) aNil))) aNil))))
def ab5 : M Fl := (sAs 11 (eCd B__law_plus [] (aCons (eV 11) (aCons (eN pTup (aCons (eB (oP pMul) (eB (oP pIx) (eV 12) (eK (.int 0))) (eB (oP pIx) (eV 7) (eK (.int 0)))) (aCons (eB (oP pMul) (eB (oP pIx) (eV 12) (eK (.int 1))) (eB (oP pIx) (eV 7) (eK (.int 1)))) aNil))) aNil))))
def ab6 : M Fl := (sAs 9 (eCd B__law_plus [] (aCons (eV 9) (aCons (eV 12) aNil))))
def ab7 : M Fl := (sIf (tV (eB (oNW [(1, B_Step___eq__)] ["int"] [0, 1, 2] pNe) (eCk B_spot_at 0 2 [1, 0] [] aNil (aCons (eNd 0 B_Ratio___init__ [] (aCons (eB (oP pIx) (eV 9) (eK (.int 0))) (aCons (eB (oP pIx) (eV 9) (eK (.int 1))) aNil))) (aCons (eV 2) aNil))) (eCd B__law_lit [] (aCons (eV 10) (aCons (eV 11) aNil))))) (sRet (eK (.bl false))) sNil)
def abl : M Fl := (sSeq ab1 (sSeq ab2 (sSeq ab3 (sSeq ab4 (sSeq ab5 (sSeq ab6 ab7))))))
theorem ar2_eq : ar2 = sFor (itN pRng (aCons (eK (.int 3)) aNil)) (gN 4) abl := rfl
theorem ix_f0 (t : Fr) : pIx (frD t) (.int 0) = some (.int t.1) := ix_tup_0 _ _
theorem ix_f1 (t : Fr) : pIx (frD t) (.int 1) = some (.int t.2) := ix_tup_1 _ _ _
theorem ab1_ok {d d1 d2 P : D} {i j len : Int} (hl : pLen [P] = some (.int len)) (e1 : B__law_draw [d, .int len] = .ok (.int i) [some d1, none]) (e2 : B__law_draw [d1, .int 7] = .ok (.int j) [some d2, none]) (r2 r3 r4 r5 r6 r7 r8 r9 r10 r11 r12 : Option D) :
    ab1 [some d, some P, r2, r3, r4, r5, r6, r7, r8, r9, r10, r11, r12] = .ok .nx [some d2, some P, r2, r3, r4, some (.int i), some (.tup [.int j, .int 6]), r7, r8, r9, r10, r11, r12] := by
  simp [ab1, hl, e1, e2, gTs, show 2 ≤ big by unfold big; omega]
theorem ab2_ok {P L u v A R Lf U V : D} {i : Int} (h1 : pIx P (.int i) = some u) (h2 : pIx L (.int i) = some v) (h3 : itemsOf u = some [U, V]) (h4 : itemsOf v = some [A, R, Lf]) (r0 r2 r4 r6 r7 r8 r9 r10 r11 r12 : Option D) :
    ab2 [r0, some P, r2, some L, r4, some (.int i), r6, r7, r8, r9, r10, r11, r12] = .ok .nx [r0, some P, r2, some L, r4, some (.int i), r6, some U, some V, some A, some R, some Lf, r12] := by
  simp [ab2, h1, h2, it_tup, gTs, h3, h4, show 2 ≤ big by unfold big; omega]
theorem ab3_ok {c d j c1 d1 : Int} (m1 : pMul (.int c) (.int j) = some (.int c1)) (m2 : pMul (.int d) (.int 6) = some (.int d1)) (r0 r1 r2 r3 r4 r5 r7 r9 r10 r11 r12 : Option D) :
    ab3 [r0, r1, r2, r3, r4, r5, some (.tup [.int j, .int 6]), r7, some (.tup [.int c, .int d]), r9, r10, r11, r12] = .ok .nx [r0, r1, r2, r3, r4, r5, some (.tup [.int j, .int 6]), r7, some (.tup [.int c, .int d]), r9, r10, r11, some (frD (c1, d1))] := by
  simp [ab3, m1, m2, frD, show 2 ≤ big by unfold big; omega]
theorem ab4_ok {a b x y : Int} {s : Fr} {R R' : D} (m1 : pMul (.int s.1) (.int b) = some (.int x)) (m2 : pMul (.int s.2) (.int a) = some (.int y)) (e : B__law_plus [R, frD (x, y)] = .ok R' [none, none]) (r0 r1 r2 r3 r4 r5 r6 r8 r9 r11 : Option D) :
    ab4 [r0, r1, r2, r3, r4, r5, r6, some (.tup [.int a, .int b]), r8, r9, some R, r11, some (frD s)] = .ok .nx [r0, r1, r2, r3, r4, r5, r6, some (.tup [.int a, .int b]), r8, r9, some R', r11, some (frD s)] := by
  have i0 := ix_f0 s
  have i1 := ix_f1 s
  have e' : B__law_plus [R, .tup [.int x, .int y]] = .ok R' [none, none] := e
  generalize frD s = S at i0 i1 ⊢
  simp [ab4, i0, i1, m1, m2, e', show 2 ≤ big by unfold big; omega]
theorem ab5_ok {a b x y : Int} {s : Fr} {R R' : D} (m1 : pMul (.int s.1) (.int a) = some (.int x)) (m2 : pMul (.int s.2) (.int b) = some (.int y)) (e : B__law_plus [R, frD (x, y)] = .ok R' [none, none]) (r0 r1 r2 r3 r4 r5 r6 r8 r9 r10 : Option D) :
    ab5 [r0, r1, r2, r3, r4, r5, r6, some (.tup [.int a, .int b]), r8, r9, r10, some R, some (frD s)] = .ok .nx [r0, r1, r2, r3, r4, r5, r6, some (.tup [.int a, .int b]), r8, r9, r10, some R', some (frD s)] := by
  have i0 := ix_f0 s
  have i1 := ix_f1 s
  have e' : B__law_plus [R, .tup [.int x, .int y]] = .ok R' [none, none] := e
  generalize frD s = S at i0 i1 ⊢
  simp [ab5, i0, i1, m1, m2, e', show 2 ≤ big by unfold big; omega]
theorem ab6_ok {S R R' : D} (e : B__law_plus [R, S] = .ok R' [none, none]) (r0 r1 r2 r3 r4 r5 r6 r7 r8 r10 r11 : Option D) :
    ab6 [r0, r1, r2, r3, r4, r5, r6, r7, r8, some R, r10, r11, some S] = .ok .nx [r0, r1, r2, r3, r4, r5, r6, r7, r8, some R', r10, r11, some S] := by
  simp [ab6, e]
theorem ab7_ok {T R L : D} {A : Fr} {a t x : Rat} (h : B_Ratio___init__ [.ob 0 [], .int A.1, .int A.2] = .ok .non [some (rt a), none, none]) (e : B_spot_at [T, rt a] = .ok (stp t [x]) [none, none]) (e2 : B__law_lit [R, L] = .ok (stp t [x]) [none, none]) (r0 r1 r3 r4 r5 r6 r7 r8 r12 : Option D) :
    ab7 [r0, r1, some T, r3, r4, r5, r6, r7, r8, some (frD A), some R, some L, r12] = .ok .nx [r0, r1, some T, r3, r4, r5, r6, r7, r8, some (frD A), some R, some L, r12] := by
  have i0 := ix_f0 A
  have i1 := ix_f1 A
  have c := ne_st (tb := [(1, B_Step___eq__)]) rfl t x
  generalize frD A = AA at i0 i1 ⊢
  simp [ab7, i0, i1, h, permL, e, e2, c]
theorem fv_le {f g : Fr} (hf : 0 < f.2) (hg : 0 < g.2) (h : f.1 * g.2 ≤ g.1 * f.2) : fv f ≤ fv g := by
  apply Rat.not_lt.mp
  intro z
  have := (fv_lt hg hf).mp z
  omega
theorem split_at {ps : List Part} {i : Nat} (h : i < ps.length) : ∃ p ∈ ps, ∃ post, ps = ps.take i ++ p :: post ∧ ps[i]? = some p :=
  ⟨ps[i], List.getElem_mem h, ps.drop (i + 1), by rw [List.getElem_cons_drop]; exact (List.take_append_drop i ps).symm, List.getElem?_eq_getElem h⟩
theorem ratio_is (q : Rat) : B_is_ratio [rt q] = .ok (.bl true) [none] := is_ratio_rt q
theorem below_no {p q : Rat} {k : Nat} (hp : Bd k p) (hq : Bd k q) (h0 : 0 < k) (hk : k ≤ 3490) (h : q ≤ p) : B_Ratio_is_below [rt p, rt q] = .ok (.bl false) [none, none] := by
  have b := below_ok hp hq h0 hk
  rw [b, decide_eq_false]
  exact Rat.not_lt.mpr h
/-- what spot_at answers at an age within part i -/
theorem spot_in {k j : Nat} {qs pre post : List QP} {q : QP} {s : Rat} (e : qs = pre ++ q :: post) (hq : ∀ x ∈ qs, QOk 14 x) (hpos : Pos qs) (hp : PB k qs) (hs0 : 0 ≤ s) (hs1 : s ≤ q.2) (hs : Bd j s) (hl : qs.length ≤ 12) (hj : 14 ≤ j) (hk0 : 0 < k) (hk : k + j + j + 15 ≤ 868) :
    B_spot_at [tour qs, rt (sA pre + s)] = .ok (stp ((sR pre + s / q.1 + (sL pre + s * q.1)) * hf) [(sL pre + s * q.1 - (sR pre + s / q.1)) * hf]) [none, none] ∧ cut qs (sA pre + s) = pre ++ (q.1, s) :: zs post := by
  have hc : cut qs (sA pre + s) = pre ++ (q.1, s) :: zs post := by
    rw [e] at hpos ⊢
    exact cut_at hs0 hs1 (fun x m => hpos x (by simp [m])) (fun x m => hpos x (by simp [m]))
  obtain ⟨z1, z2, z3⟩ := zs_app_sums pre q s post
  have hqq := hq q (by rw [e]; simp)
  have pb := cut_pb (k := k) (j := j) (pre := pre) (post := post) (q := q) (s := s) (by rw [← e]; exact hp) hs hqq.b1 hqq.p1
  have qo := cut_qok (m := j) (pre := pre) (post := post) (q := q) (s := s) (by rw [← e]; exact hq) hs hs0 hj
  have bA : Bd k (sA pre) := by
    have := (hp pre.length).1
    rw [e, List.take_left] at this
    exact this
  have bT : Bd k (sA qs) := by
    have := (hp qs.length).1
    rwa [List.take_of_length_le (Nat.le_refl _)] at this
  have hpp : Pos pre := fun x m => hpos x (by rw [e]; simp [m])
  have n1 := sA_nn hpp
  have n2 : 0 ≤ sA post := sA_nn fun x m => hpos x (by rw [e]; simp [m])
  have eT : sA qs = sA pre + (q.2 + sA post) := by rw [e, sA_app, sA]
  have bl := below_no (bT.mono (by omega : _ ≤ k + j + 1)) (bA.add2 hs) (by omega) (by omega) (by rw [eT]; grind)
  have sp := spot_ok (m := j) (k := k + j + j + 15) (qs := qs) (ratio_is _) (of_rt _) bl (by grind) hq (by rw [hc]; exact qo) (by rw [hc]; exact pb.mono (by omega)) (bA.add2 hs) (by omega) (by omega) (by omega) (by omega) hk hl
  rw [hc] at sp
  refine ⟨?_, hc⟩
  rw [sp]
  unfold spotD lt
  rw [z2, z3]
end Kw

namespace Kw
open PySem PySem.Spec PyProof.Rows L2 Z
theorem it_pD (p : Part) : itemsOf (pD p) = some [.tup [.int p.a, .int p.b], .tup [.int p.c, .int p.d]] := rfl
theorem it_f3 (x : F3) : itemsOf (f3D x) = some [frD x.1, frD x.2.1, frD x.2.2] := rfl
theorem ab_run {r0 r1 r2 r3 r4 r5 r6 r7 : Ev} (s1 : ab1 r0 = .ok .nx r1) (s2 : ab2 r1 = .ok .nx r2) (s3 : ab3 r2 = .ok .nx r3) (s4 : ab4 r3 = .ok .nx r4) (s5 : ab5 r4 = .ok .nx r5) (s6 : ab6 r5 = .ok .nx r6) (s7 : ab7 r6 = .ok .nx r7) : abl r0 = .ok .nx r7 := by
  show sSeq ab1 _ r0 = _
  rw [sSeq_nx s1, sSeq_nx s2, sSeq_nx s3, sSeq_nx s4, sSeq_nx s5, sSeq_nx s6, s7]
theorem lapA_ok {n : Nat} {d : D} {ps : List Part} (h : Pen n d) (hn : n ≤ 2 ^ 9) (ho : ∀ q ∈ ps, POk 9000 q) (h1 : 1 ≤ ps.length) (h7 : ps.length ≤ 7) (r4 x5 x6 x7 x8 x9 x10 x11 x12 : Option D) :
    ∃ d' y5 y6 y7 y8 y9 y10 y11 y12, abl [some d, some (.lst (ps.map pD)), some (tour (ps.map pr)), some (.lst ((flig ps).map f3D)), r4, x5, x6, x7, x8, x9, x10, x11, x12] = .ok .nx [some d', some (.lst (ps.map pD)), some (tour (ps.map pr)), some (.lst ((flig ps).map f3D)), r4, y5, y6, y7, y8, y9, y10, y11, y12] ∧ Pen (n + 2) d' := by
  obtain ⟨i0, d1, e1, i1, i2, p1⟩ := draw_ok (m := (ps.length : Nat)) h (by omega) (by omega) (by omega)
  obtain ⟨j, d2, e2, j1, j2, p2⟩ := draw_ok (m := 7) p1 (by omega) (by decide) (by decide)
  obtain ⟨i, rfl⟩ : ∃ i : Nat, i0 = i := ⟨i0.toNat, by omega⟩
  obtain ⟨p, hp, post, ep, gp⟩ := split_at (ps := ps) (i := i) (by omega)
  have hP := ho p hp
  have hle : pLen [.lst (ps.map pD)] = some (.int (ps.length : Nat)) := by rw [pLen_lst]; simp
  have g1 : pIx (.lst (ps.map pD)) (.int (i : Nat)) = some (pD p) := by
    rw [ix_lst, List.getElem?_map, gp]; rfl
  have g2 : pIx (.lst ((flig ps).map f3D)) (.int (i : Nat)) = some (f3D (fl (ps.take i))) := by
    rw [ix_lst, List.getElem?_map, flig_get (by omega)]; rfl
  have hpre : ∀ q ∈ ps.take i, POk 9000 q := fun q m => ho q (List.mem_of_mem_take m)
  obtain ⟨b, v1, v2, v3⟩ := fl_ok _ (ps.take i) rfl hpre
  have hli : (ps.take i).length ≤ 7 := by simp; omega
  generalize hx : fl (ps.take i) = x at *
  have c5 := abs_lt_of (k := 5) hP.c0 hP.c1 (by decide)
  have d3 := abs_lt_of (k := 3) hP.d0 hP.d1 (by decide)
  have a14 := abs_lt_of (k := 14) hP.a0 hP.a1 (by decide)
  have b14 := abs_lt_of (k := 14) hP.b0 hP.b1 (by decide)
  have jb : j.natAbs < 2 ^ 3 := by omega
  have fs : Fb 8 (p.c * j, p.d * 6) := ⟨Int.mul_pos hP.d0 (by decide), abs_mul_lt c5 jb, by
    have := abs_mul_lt (b := 6) (k := 3) d3 (by decide)
    exact Nat.lt_of_lt_of_le this (by decide)⟩
  have fr : Fb 22 (p.c * j * p.b, p.d * 6 * p.a) := ⟨Int.mul_pos fs.pos hP.a0, abs_mul_lt fs.n b14, abs_mul_lt fs.d a14⟩
  have fL : Fb 22 (p.c * j * p.a, p.d * 6 * p.b) := ⟨Int.mul_pos fs.pos hP.b0, abs_mul_lt fs.n a14, abs_mul_lt fs.d b14⟩
  have e4 := plus_ok (k := 150) (b.r.mono (by omega)) (fr.mono (by omega)) (by omega) (by omega)
  have e5 := plus_ok (k := 150) (b.l.mono (by omega)) (fL.mono (by omega)) (by omega) (by omega)
  have e6 := plus_ok (k := 150) (b.a.mono (by omega)) (fs.mono (by omega)) (by omega) (by omega)
  have bR := (b.r.plus fr).mono (by omega : _ ≤ 200)
  have bL := (b.l.plus fL).mono (by omega : _ ≤ 200)
  have bA := (b.a.plus fs).mono (by omega : _ ≤ 200)
  have w1 := fv_plus b.a.pos fs.pos
  have w2 := fv_plus b.r.pos fr.pos
  have w3 := fv_plus b.l.pos fL.pos
  have hs0 : 0 ≤ fv (p.c * j, p.d * 6) := by
    have := fv_le (f := (0, 1)) (g := (p.c * j, p.d * 6)) (by decide) fs.pos (by
      show 0 * (p.d * 6) ≤ p.c * j * 1
      have := Int.mul_nonneg (Int.le_of_lt hP.c0) j1
      omega)
    rwa [show fv (0, 1) = 0 from Rat.zero_divInt 1] at this
  have hs1 : fv (p.c * j, p.d * 6) ≤ (pr p).2 := fv_le (f := (p.c * j, p.d * 6)) (g := (p.c, p.d)) fs.pos hP.d0 (by
    show p.c * j * p.d ≤ p.c * (p.d * 6)
    have h6 : j ≤ 6 := by omega
    have := Int.mul_le_mul_of_nonneg_left h6 (Int.le_of_lt (Int.mul_pos hP.c0 hP.d0))
    rw [show p.c * j * p.d = p.c * p.d * j by rw [Int.mul_assoc, Int.mul_comm j, ← Int.mul_assoc], show p.c * (p.d * 6) = p.c * p.d * 6 by rw [Int.mul_assoc]]
    exact this)
  have u2 : fv (p.c * j * p.b, p.d * 6 * p.a) = fv (p.c * j, p.d * 6) / (pr p).1 := by
    show Rat.divInt (p.c * j * p.b) (p.d * 6 * p.a) = Rat.divInt (p.c * j) (p.d * 6) / Rat.divInt p.a p.b
    rw [Rat.div_def, Rat.inv_divInt, Rat.divInt_mul_divInt]
  have u3 : fv (p.c * j * p.a, p.d * 6 * p.b) = fv (p.c * j, p.d * 6) * (pr p).1 := by
    show Rat.divInt (p.c * j * p.a) (p.d * 6 * p.b) = Rat.divInt (p.c * j) (p.d * 6) * Rat.divInt p.a p.b
    rw [Rat.divInt_mul_divInt]
  have nA := B_ratio (n := (plus x.1 (p.c * j, p.d * 6)).1) (d := (plus x.1 (p.c * j, p.d * 6)).2) bA.pos (Nat.lt_of_lt_of_le bA.d (Nat.pow_le_pow_right (by omega) (by omega)))
  rw [show Rat.divInt (plus x.1 (p.c * j, p.d * 6)).1 (plus x.1 (p.c * j, p.d * 6)).2 = sA ((ps.take i).map pr) + fv (p.c * j, p.d * 6) from w1.trans (by rw [v1])] at nA
  have lit := law_lit_ok bR bL (by omega) (by omega)
  rw [w2, w3, v2, v3, u2, u3] at lit
  have eq : ps.map pr = (ps.take i).map pr ++ pr p :: post.map pr := by
    rw [← List.map_cons, ← List.map_append, ← ep]
  obtain ⟨qk, _⟩ := qs_ok ho
  have hpb := (PB_of ho).mono (by omega : _ ≤ 141)
  have sp := (spot_in (k := 141) (j := 14) eq qk (pos_of ho) hpb hs0 hs1 (fs.bd.mono (by omega)) (by simp; omega) (by omega) (by omega) (by omega)).1
  have m1 := pMul_int (mulB_both c5 jb (by omega) (by omega) (by omega) (by omega))
  have m2 := pMul_int (mulB_left (i := p.d) (j := 6) (by omega))
  have m3 := pMul_int (mulB_both fs.n b14 (by omega) (by omega) (by omega) (by omega))
  have m4 := pMul_int (mulB_both fs.d a14 (by omega) (by omega) (by omega) (by omega))
  have m5 := pMul_int (mulB_both fs.n a14 (by omega) (by omega) (by omega) (by omega))
  have m6 := pMul_int (mulB_both fs.d b14 (by omega) (by omega) (by omega) (by omega))
  exact ⟨d2, _, _, _, _, _, _, _, _, ab_run (ab1_ok hle e1 e2 _ _ _ _ _ _ _ _ _ _ _) (ab2_ok g1 g2 (it_pD p) (it_f3 x) _ _ _ _ _ _ _ _ _ _) (ab3_ok m1 m2 _ _ _ _ _ _ _ _ _ _ _) (ab4_ok m3 m4 e4 _ _ _ _ _ _ _ _ _ _) (ab5_ok m5 m6 e5 _ _ _ _ _ _ _ _ _ _) (ab6_ok e6 _ _ _ _ _ _ _ _ _ _ _) (ab7_ok nA sp lit _ _ _ _ _ _ _ _ _), p2⟩
/-! the begin and the end -/
theorem below_int0 {p : Rat} {k : Nat} (hp : Bd k p) (h0 : 0 < k) (hk : k ≤ 3490) (h : 0 ≤ p) : B_Ratio_is_below [rt p, .int 0] = .ok (.bl false) [none, none] := by
  have f := from_int 0 (.str "other")
  have s := sub_ok hp (Bd.zero h0) h0 hk
  have e0 : ((0 : Int) : Rat) = 0 := rfl
  rw [e0] at f
  have sg := sign_ok (p - 0)
  have sn : ¬ (p - 0).num.sign < 0 := fun z => by
    have := (sg_neg (p - 0)).mp z
    grind
  have w := oW_rt (tb := [(0, B_Ratio___sub__)]) (ts := ["int"]) (cs := [0, 1]) (p := pSub) rfl rfl s
  generalize (p - 0).num.sign = sgn at *
  simp [B_Ratio_is_below, mkB, b_Ratio_is_below, f, w, sg, sn]
theorem of_int0 : B_Ratio_of [.int 0] = .ok (rt 0) [none] := by
  have f := from_int 0 (.str "value")
  have e0 : ((0 : Int) : Rat) = 0 := rfl
  rw [e0] at f
  simp [B_Ratio_of, mkB, b_Ratio_of, f]
theorem step00 : B_Step___init__ [.ob 1 [], .int 0, .lst [.int 0]] = .ok .non [some (stp 0 [0]), none, none] := by
  have ar : B_are_ratios [.lst [.int 0]] = .ok (.bl true) [none] := by
    simp [B_are_ratios, mkB, b_are_ratios, itemsOf, big, lcGo, lcOut, wipeE, backE, pAll, lisOf, toBls]
  have o := of_int0
  have z : Bd 1 (0 : Rat) := Bd.zero (by omega)
  have pr := product1 (l := [.int 1]) (m := [.int 1]) z z (by omega) (by omega)
  have kd := kind_ok 0 (dot 0 [0] 0 [0])
  generalize hd : dot 0 [0] 0 [0] = dd at pr kd
  simp [B_Step___init__, mkB, b_Step___init__, ar, o, onBl, pLen, itemsOf, big, lcGo, lcOut, wipeE, backE, pTuple, pr, kd, sl, hd]
theorem zs_qok {l : List QP} (h : ∀ x ∈ l, QOk 14 x) : ∀ x ∈ zs l, QOk 14 x := fun x m => by
  obtain ⟨y, hy, rfl⟩ := List.mem_map.mp m
  have := h y hy
  exact ⟨this.p1, Rat.le_refl, this.b1, Bd.zero (by omega)⟩
theorem zs_pb (k : Nat) (h0 : 0 < k) (l : List QP) : PB k (zs l) := fun i => by
  rw [zs_take]
  obtain ⟨h1, h2, h3⟩ := zs_sums (l.take i)
  rw [h1, h2, h3]
  exact ⟨Bd.zero h0, Bd.zero h0, Bd.zero h0⟩
theorem spot_0 {qs : List QP} {k : Nat} (hq : ∀ x ∈ qs, QOk 14 x) (hpos : Pos qs) (hp : PB k qs) (hk : k ≤ 400) (h0 : 0 < k) (hl : qs.length ≤ 12) : B_spot_at [tour qs, .int 0] = .ok (stp 0 [0]) [none, none] := by
  have bT : Bd k (sA qs) := by
    have := (hp qs.length).1
    rwa [List.take_of_length_le (Nat.le_refl _)] at this
  have c := cut_zero hpos
  have sp := spot_ok (m := 14) (k := 100) (j := 14) (qs := qs) (a := 0) (x := .int 0) (is_ratio_int 0) of_int0 (below_int0 bT h0 (by omega) (sA_nn hpos)) Rat.le_refl hq (by rw [c]; exact zs_qok hq) (by rw [c]; exact zs_pb 100 (by omega) qs) (Bd.zero (by omega)) (by omega) (by omega) (by omega) (by omega) (by omega) hl
  rw [sp, c]
  obtain ⟨h1, h2, h3⟩ := zs_sums qs
  unfold spotD lt
  rw [h2, h3]
  have e1 : ((0 : Rat) + 0) * hf = 0 := by grind
  have e2 : ((0 : Rat) - 0) * hf = 0 := by grind
  rw [e1, e2]
theorem spot_end {qs : List QP} {k : Nat} (hq : ∀ x ∈ qs, QOk 14 x) (hpos : Pos qs) (hp : PB k qs) (hk : k ≤ 400) (h28 : 28 ≤ k) (h1 : 1 ≤ qs.length) (hl : qs.length ≤ 12) : B_spot_at [tour qs, rt (sA qs)] = .ok (spotD (lt qs)) [none, none] := by
  have hne : qs ≠ [] := fun z => by rw [z] at h1; simp at h1
  have bT : Bd k (sA qs) := by
    have := (hp qs.length).1
    rwa [List.take_of_length_le (Nat.le_refl _)] at this
  have e : qs = qs.dropLast ++ qs.getLast hne :: [] := (List.dropLast_concat_getLast hne).symm
  have hm : qs.getLast hne ∈ qs := List.getLast_mem hne
  have c : cut qs (sA qs) = qs := by
    have z : cut (qs.dropLast ++ qs.getLast hne :: []) (sA qs.dropLast + (qs.getLast hne).2) = qs.dropLast ++ qs.getLast hne :: [] := cut_at (q := qs.getLast hne) (post := []) (s := (qs.getLast hne).2) (pre := qs.dropLast) (Rat.le_of_lt (hpos _ hm).2) Rat.le_refl (fun x m => nomatch m) (fun x m => hpos x ((List.dropLast_sublist qs).subset m))
    rw [← e] at z
    have es : sA qs.dropLast + (qs.getLast hne).2 = sA qs := by
      conv => rhs; rw [e]
      rw [sA_app]
      simp only [sA, Rat.add_zero]
    rwa [es] at z
  have sp := spot_ok (m := 14) (k := k) (j := k) (qs := qs) (a := sA qs) (ratio_is _) (of_rt _) (below_no bT bT (by omega) (by omega) Rat.le_refl) (sA_nn hpos) hq (by rw [c]; exact hq) (by rw [c]; exact hp) bT (by omega) (by omega) h28 (by omega) (by omega) hl
  rw [sp, c]
theorem ar3_ok {T s : D} {a t x : Rat} {l : List D} (hT : T = .ob 2 l) (h2 : l[2]? = some (rt a)) (h3 : l[3]? = some (stp t [x])) (e1 : B_spot_at [T, .int 0] = .ok (stp 0 [0]) [none, none]) (e2 : B_spot_at [T, rt a] = .ok (stp t [x]) [none, none]) (r0 r1 r3 r4 r5 r6 r7 r8 r9 r10 r11 r12 : Option D) :
    ar3 [r0, r1, some T, r3, r4, r5, r6, r7, r8, r9, r10, r11, r12] = .ok (.rt (.bl true)) [r0, r1, some T, r3, r4, r5, r6, r7, r8, r9, r10, r11, r12] := by
  have st := step00
  have c : ∀ (t x : Rat) r, oET [(1, B_Step___eq__)] ["int"] [0, 1, 2] (stp t [x]) (stp t [x]) r = .ok (.bl true) r := fun t x r => by
    simp [oET, oW, rk, step_eq1]
  subst hT
  simp [ar3, e1, e2, st, c, h2, h3, show 1 ≤ big by unfold big; omega]
theorem ages_ok {n : Nat} {d : D} {ps : List Part} (h : Pen n d) (hn : n ≤ 2 ^ 8) (ho : ∀ q ∈ ps, POk 9000 q) (h1 : 1 ≤ ps.length) (h7 : ps.length ≤ 7) : ∃ d', B__law_ages_right [d, .lst (ps.map pD), tour (ps.map pr)] = .ok (.bl true) [some d', none, none] ∧ Pen (n + 6) d' := by
  have el := law_lights_ok ho (by omega)
  obtain ⟨d1, a5, a6, a7, a8, a9, a10, a11, a12, e1, p1⟩ := lapA_ok h (by omega) ho h1 h7 (some (.int 0)) none none none none none none none none
  obtain ⟨d2, b5, b6, b7, b8, b9, b10, b11, b12, e2, p2⟩ := lapA_ok p1 (by omega) ho h1 h7 (some (.int 1)) a5 a6 a7 a8 a9 a10 a11 a12
  obtain ⟨d3, c5, c6, c7, c8, c9, c10, c11, c12, e3, p3⟩ := lapA_ok p2 (by omega) ho h1 h7 (some (.int 2)) b5 b6 b7 b8 b9 b10 b11 b12
  obtain ⟨qk, _⟩ := qs_ok ho
  have hpb := (PB_of ho).mono (by omega : _ ≤ 141)
  have s0 := spot_0 qk (pos_of ho) hpb (by omega) (by omega) (by simp; omega)
  have s9 := spot_end qk (pos_of ho) hpb (by omega) (by omega) (by simpa using h1) (by simp; omega)
  have er : rng 0 3 = [.int 0, .int 1, .int 2] := by simp [rng, List.range_succ]
  have t1 : ar1 [some d, some (.lst (ps.map pD)), some (tour (ps.map pr)), none, none, none, none, none, none, none, none, none, none] = .ok .nx [some d, some (.lst (ps.map pD)), some (tour (ps.map pr)), some (.lst ((flig ps).map f3D)), none, none, none, none, none, none, none, none, none] := by simp [ar1, el]
  have t3 := ar3_ok (T := tour (ps.map pr)) (s := .non) rfl (tl_2 _) (tl_3 _) s0 s9 (some d3) (some (.lst (ps.map pD))) (some (.lst ((flig ps).map f3D))) (some (.int 2)) c5 c6 c7 c8 c9 c10 c11 c12
  have t2 : ar2 [some d, some (.lst (ps.map pD)), some (tour (ps.map pr)), some (.lst ((flig ps).map f3D)), none, none, none, none, none, none, none, none, none] = .ok .nx [some d3, some (.lst (ps.map pD)), some (tour (ps.map pr)), some (.lst ((flig ps).map f3D)), some (.int 2), c5, c6, c7, c8, c9, c10, c11, c12] := by
    rw [ar2_eq]
    generalize D.lst (ps.map pD) = P at *
    generalize D.lst ((flig ps).map f3D) = L at *
    simp [pRng, er, forGo, e1, e2, e3]
  have run := sSeq_nx (g := sSeq ar2 ar3) t1
  rw [sSeq_nx t2, t3] at run
  have z : mkB 3 13 [0] (sSeq ar1 (sSeq ar2 ar3)) [d, .lst (ps.map pD), tour (ps.map pr)] = _ := mkB_run (n := 3) (m := 13) (io := [0]) (r0 := [some d, some (.lst (ps.map pD)), some (tour (ps.map pr)), none, none, none, none, none, none, none, none, none, none]) rfl rfl run
  rw [keepE3'] at z
  refine ⟨d3, ?_, p3⟩
  rw [B__law_ages_right, ars]
  exact z
end Kw

namespace Kw
open PySem PySem.Spec PyProof.Rows L2 Z
def al1 : M Fl := (sAs 3 (eCd B_lights_along [] (aCons (eFl [(2, 0)] (eV 0)) aNil)))
def al2 : M Fl := (sIf (tNo (tV (eMd [(0, B_Ratio_is_below)] [] (eB (oP pIx) (eB (oP pIx) (eV 3) (eK (.int 0))) (eV 1)) (aCons (eV 2) aNil)))) (sRet (eNd 0 B_Ratio___init__ [.int (1)] (aCons (eK (.int 0)) aNil))) sNil)
def al3 : M Fl := (sFor (itN pEnt (aCons (eFl [(2, 0)] (eV 0)) aNil)) (gT [(gN 4), (gN 5)]) (sIf (tNo (tV (eMd [(0, B_Ratio_is_below)] [] (eB (oP pIx) (eB (oP pIx) (eV 3) (eB (oW [(0, B_Ratio___add__)] ["int"] [0, 1] pAdd) (eV 4) (eK (.int 1)))) (eV 1)) (aCons (eV 2) aNil)))) (sSeq (sAs 6 (eB (oW [(0, B_Ratio___sub__)] ["int"] [0, 1] pSub) (eV 2) (eB (oP pIx) (eB (oP pIx) (eV 3) (eV 4)) (eV 1)))) (sRet (eB (oW [(0, B_Ratio___add__)] ["int"] [0, 1] pAdd) (eB (oP pIx) (eB (oP pIx) (eV 3) (eV 4)) (eK (.int 0))) (eIf (tV (eB (oP pEq) (eV 1) (eK (.int 1)))) (eB (oW [(0, B_Ratio___mul__)] ["int"] [0, 1] pMul) (eV 6) (eB (oP pIx) (eV 5) (eK (.int 0)))) (eMd [(0, B_Ratio_over)] [] (eV 6) (aCons (eB (oP pIx) (eV 5) (eK (.int 0))) aNil)))))) sNil))
def al4 : M Fl := (sRet (eK .non))
theorem als : b_age_of_light = (sSeq al1 (sSeq al2 (sSeq al3 al4))) := rfl
def ax1 : M Fl := (sIf (tNo (tV (eMd [(0, B_Ratio_is_below)] [] (eB (oP pIx) (eB (oP pIx) (eV 3) (eB (oW [(0, B_Ratio___add__)] ["int"] [0, 1] pAdd) (eV 4) (eK (.int 1)))) (eV 1)) (aCons (eV 2) aNil)))) (sSeq (sAs 6 (eB (oW [(0, B_Ratio___sub__)] ["int"] [0, 1] pSub) (eV 2) (eB (oP pIx) (eB (oP pIx) (eV 3) (eV 4)) (eV 1)))) (sRet (eB (oW [(0, B_Ratio___add__)] ["int"] [0, 1] pAdd) (eB (oP pIx) (eB (oP pIx) (eV 3) (eV 4)) (eK (.int 0))) (eIf (tV (eB (oP pEq) (eV 1) (eK (.int 1)))) (eB (oW [(0, B_Ratio___mul__)] ["int"] [0, 1] pMul) (eV 6) (eB (oP pIx) (eV 5) (eK (.int 0)))) (eMd [(0, B_Ratio_over)] [] (eV 6) (aCons (eB (oP pIx) (eV 5) (eK (.int 0))) aNil)))))) sNil)
def axl : M Fl := ax1
def an1 : M Fl := (sEx (eCd B_need_tour [] (aCons (eV 0) (aCons (eK (.str "tour")) aNil))))
def an2 : M Fl := (sEx (eCd B_need_step [] (aCons (eV 1) (aCons (eK (.str "step")) aNil))))
def an3 : M Fl := (sIf (tV (eB (oP pNe) (eFl [(1, 2)] (eV 1)) (eK (.int 1)))) sNo sNil)
def an4 : M Fl := (sAs 2 (eCd B_age_of_light [] (aCons (eV 0) (aCons (eK (.int 1)) (aCons (eB (oW [(0, B_Ratio___sub__)] ["int"] [0, 1] pSub) (eFl [(1, 0)] (eV 1)) (eB (oP pIx) (eFl [(1, 1)] (eV 1)) (eK (.int 0)))) aNil)))))
def an5 : M Fl := (sAs 3 (eCd B_age_of_light [] (aCons (eV 0) (aCons (eK (.int 2)) (aCons (eB (oW [(0, B_Ratio___add__)] ["int"] [0, 1] pAdd) (eFl [(1, 0)] (eV 1)) (eB (oP pIx) (eFl [(1, 1)] (eV 1)) (eK (.int 0)))) aNil)))))
def an6 : M Fl := (sIf (tOn (tV (eIsN (eV 2))) (tV (eIsN (eV 3)))) (sRet (eK .non)) sNil)
def an7 : M Fl := (sRet (eIf (tV (eMd [(0, B_Ratio_is_below)] [] (eV 2) (aCons (eV 3) aNil))) (eV 3) (eV 2)))
theorem ans : b_age_of_news = (sSeq an1 (sSeq an2 (sSeq an3 (sSeq an4 (sSeq an5 (sSeq an6 an7)))))) := rfl
theorem al3_eq : al3 = sFor (itN pEnt (aCons (eFl [(2, 0)] (eV 0)) aNil)) (gT [(gN 4), (gN 5)]) axl := rfl
def sS (b : Bool) (l : List QP) : Rat := if b then sR l else sL l
def up (b : Bool) (x k : Rat) : Rat := if b then x * k else x / k
def dn (b : Bool) (s k : Rat) : Rat := if b then s / k else s * k
def sid (b : Bool) : Int := if b then 1 else 2
theorem ix_t3 (b : Bool) (l : List QP) : pIx (t3 (lt l)) (.int (sid b)) = some (rt (sS b l)) := by
  cases b
  · exact ix_tup_2 _ _ _ _
  · exact ix_tup_1 _ _ _
theorem ax_pass {LL v : D} {i sd : Int} {s l : Rat} (h1 : pIx LL (.int (i + 1)) = some v) (h2 : pIx v (.int sd) = some (rt s)) (h3 : B_Ratio_is_below [rt s, rt l] = .ok (.bl true) [none, none]) (r0 y5 y6 : Option D) :
    axl [r0, some (.int sd), some (rt l), some LL, some (.int i), y5, y6] = .ok .nx [r0, some (.int sd), some (rt l), some LL, some (.int i), y5, y6] := by
  simp [axl, ax1, oW_int, h1, h2, h3]
theorem ax_retR {LL u v pq : D} {i : Int} {s s0 a0 k ap w z l : Rat} (h1 : pIx LL (.int (i + 1)) = some v) (h2 : pIx v (.int 1) = some (rt s)) (h3 : B_Ratio_is_below [rt s, rt l] = .ok (.bl false) [none, none]) (h4 : pIx LL (.int i) = some u) (h5 : pIx u (.int 1) = some (rt s0)) (h6 : pIx u (.int 0) = some (rt a0))
    (h7 : pIx pq (.int 0) = some (rt k)) (e1 : B_Ratio___sub__ [rt l, rt s0] = .ok (rt ap) [none, none]) (e2 : B_Ratio___mul__ [rt ap, rt k] = .ok (rt w) [none, none]) (e3 : B_Ratio___add__ [rt a0, rt w] = .ok (rt z) [none, none]) (r0 y6 : Option D) :
    axl [r0, some (.int 1), some (rt l), some LL, some (.int i), some pq, y6] = .ok (.rt (rt z)) [r0, some (.int 1), some (rt l), some LL, some (.int i), some pq, some (rt ap)] := by
  have w1 := oW_rt (tb := [(0, B_Ratio___sub__)]) (ts := ["int"]) (cs := [0, 1]) (p := pSub) rfl rfl e1
  have w2 := oW_rt (tb := [(0, B_Ratio___mul__)]) (ts := ["int"]) (cs := [0, 1]) (p := pMul) rfl rfl e2
  have w3 := oW_rt (tb := [(0, B_Ratio___add__)]) (ts := ["int"]) (cs := [0, 1]) (p := pAdd) rfl rfl e3
  simp [axl, ax1, oW_int, h1, h2, h3, h4, h5, h6, h7, w1, w2, w3]
theorem ax_retL {LL u v pq : D} {i : Int} {s s0 a0 k ap w z l : Rat} (h1 : pIx LL (.int (i + 1)) = some v) (h2 : pIx v (.int 2) = some (rt s)) (h3 : B_Ratio_is_below [rt s, rt l] = .ok (.bl false) [none, none]) (h4 : pIx LL (.int i) = some u) (h5 : pIx u (.int 2) = some (rt s0)) (h6 : pIx u (.int 0) = some (rt a0))
    (h7 : pIx pq (.int 0) = some (rt k)) (e1 : B_Ratio___sub__ [rt l, rt s0] = .ok (rt ap) [none, none]) (e2 : B_Ratio_over [rt ap, rt k] = .ok (rt w) [none, none]) (e3 : B_Ratio___add__ [rt a0, rt w] = .ok (rt z) [none, none]) (r0 y6 : Option D) :
    axl [r0, some (.int 2), some (rt l), some LL, some (.int i), some pq, y6] = .ok (.rt (rt z)) [r0, some (.int 2), some (rt l), some LL, some (.int i), some pq, some (rt ap)] := by
  have w1 := oW_rt (tb := [(0, B_Ratio___sub__)]) (ts := ["int"]) (cs := [0, 1]) (p := pSub) rfl rfl e1
  have w3 := oW_rt (tb := [(0, B_Ratio___add__)]) (ts := ["int"]) (cs := [0, 1]) (p := pAdd) rfl rfl e3
  simp [axl, ax1, oW_int, h1, h2, h3, h4, h5, h6, h7, w1, e2, w3]
theorem sS_app (b : Bool) (l m : List QP) : sS b (l ++ m) = sS b l + sS b m := by
  cases b
  · exact sL_app l m
  · exact sR_app l m
theorem sS_one (b : Bool) (q : QP) : sS b [q] = dn b q.2 q.1 := by
  cases b <;> simp [sS, dn, sR, sL, Rat.add_zero]
theorem PB.s {k : Nat} {qs : List QP} (h : PB k qs) (b : Bool) (i : Nat) : Bd k (sS b (qs.take i)) := by
  cases b
  · exact (h i).2.2
  · exact (h i).2.1
def pe (x : QP × Nat) : D := .tup [.int (x.2 : Nat), pairD x.1]
theorem enu_eq (qs : List QP) : enuD (qs.map pairD) = qs.zipIdx.map pe := by
  unfold enuD
  rw [List.zipIdx_map, List.map_map]
  rfl
theorem up_dn (b : Bool) {x k : Rat} (h : 0 < k) : dn b (up b x k) k = x := by
  cases b
  · exact div_mul h
  · show x * k / k = x
    grind
theorem up_le (b : Bool) {x y k : Rat} (h : 0 < k) (hx : x ≤ dn b y k) : up b x k ≤ y := by
  cases b
  · have := div_mono (show x ≤ y * k from hx) h
    have e : y * k / k = y := by grind
    rw [e] at this
    exact this
  · have := Rat.mul_le_mul_of_nonneg_right (show x ≤ y / k from hx) (Rat.le_of_lt h)
    have e := div_mul (b := y) h
    show x * k ≤ y
    grind
theorem up_pos (b : Bool) {x k : Rat} (h : 0 < k) (hx : 0 < x) : 0 < up b x k := by
  cases b
  · exact div_pos hx h
  · exact Rat.mul_pos hx h
theorem up_bd (b : Bool) {j : Nat} {x k : Rat} (hx : Bd j x) (hk : Bd 14 k) (h : 0 < k) : Bd (j + 14) (up b x k) := by
  cases b
  · exact hx.div2 hk h
  · exact hx.mul2 hk
theorem go_ok {k : Nat} {qs : List QP} {l : Rat} (b : Bool) (hq : ∀ q ∈ qs, QOk 14 q) (hp : PB k qs) (hl : Bd k l) (h14 : 14 ≤ k) (hk : k ≤ 400) : ∀ (post pre : List QP) (y4 y5 y6 : Option D), qs = pre ++ post → sS b pre < l →
    (sS b qs < l → ∃ z4 z5 z6, forGo (gT [(gN 4), (gN 5)]) axl ((post.zipIdx pre.length).map pe) [some (tour qs), some (.int (sid b)), some (rt l), some (.lst ((lig qs).map t3)), y4, y5, y6] = .ok .nx [some (tour qs), some (.int (sid b)), some (rt l), some (.lst ((lig qs).map t3)), z4, z5, z6]) ∧
    (l ≤ sS b qs → ∃ pr q po, qs = pr ++ q :: po ∧ sS b pr < l ∧ l ≤ sS b (pr ++ [q]) ∧ ∃ r', forGo (gT [(gN 4), (gN 5)]) axl ((post.zipIdx pre.length).map pe) [some (tour qs), some (.int (sid b)), some (rt l), some (.lst ((lig qs).map t3)), y4, y5, y6] = .ok (.rt (rt (sA pr + up b (l - sS b pr) q.1))) r')
  | [], pre, y4, y5, y6, e, h => by
    rw [List.append_nil] at e
    subst e
    exact ⟨fun _ => ⟨y4, y5, y6, rfl⟩, fun z => by grind⟩
  | q :: post, pre, y4, y5, y6, e, h => by
    have hlen := congrArg List.length e
    rw [List.length_append, List.length_cons] at hlen
    have et0 : qs.take pre.length = pre := by rw [e, List.take_left]
    have et1 : qs.take (pre.length + 1) = pre ++ [q] := by
      rw [e, show pre ++ q :: post = (pre ++ [q]) ++ post by simp, List.take_append_of_le_length (by simp), List.take_of_length_le (by simp)]
    have g0 : pIx (.lst ((lig qs).map t3)) (.int (pre.length : Nat)) = some (t3 (lt pre)) := by
      rw [ix_lst, List.getElem?_map, lig_get (by omega), et0]; rfl
    have g1 : pIx (.lst ((lig qs).map t3)) (.int ((pre.length : Nat) + 1)) = some (t3 (lt (pre ++ [q]))) := by
      rw [show ((pre.length : Nat) : Int) + 1 = ((pre.length + 1 : Nat) : Int) by omega, ix_lst, List.getElem?_map, lig_get (by omega), et1]; rfl
    have b0 := hp.s b pre.length
    have b1 := hp.s b (pre.length + 1)
    have bA := (hp pre.length).1
    rw [et0] at b0 bA
    rw [et1] at b1
    have hQ := hq q (by rw [e]; simp)
    have bl := below_ok b1 hl (by omega) (by omega)
    have e4 : ∀ r, gT [(gN 4), (gN 5)] (pe (q, pre.length)) [some (tour qs), some (.int (sid b)), some (rt l), some (.lst ((lig qs).map t3)), y4, y5, r] = some [some (tour qs), some (.int (sid b)), some (rt l), some (.lst ((lig qs).map t3)), some (.int (pre.length : Nat)), some (pairD q), r] := fun r => by
      simp [pe, itemsOf, gTs]
    rw [List.zipIdx_cons, List.map_cons]
    by_cases hh : sS b (pre ++ [q]) < l
    · rw [decide_eq_true hh] at bl
      have pa := ax_pass g1 (ix_t3 b _) bl (some (tour qs)) (some (pairD q)) y6
      obtain ⟨i1, i2⟩ := go_ok b hq hp hl h14 hk post (pre ++ [q]) (some (.int (pre.length : Nat))) (some (pairD q)) y6 (by rw [e]; simp) hh
      rw [List.length_append, List.length_singleton] at i1 i2
      constructor
      · intro z
        obtain ⟨z4, z5, z6, ez⟩ := i1 z
        exact ⟨z4, z5, z6, by rw [forGo, e4]; simp only [pa]; exact ez⟩
      · intro z
        obtain ⟨pr, q', po, e1, e2, e3, r', ez⟩ := i2 z
        exact ⟨pr, q', po, e1, e2, e3, r', by rw [forGo, e4]; simp only [pa]; exact ez⟩
    · rw [decide_eq_false hh] at bl
      have hle : l ≤ sS b (pre ++ [q]) := Rat.not_lt.mp hh
      have k7 : pIx (pairD q) (.int 0) = some (rt q.1) := ix_tup_0 _ _
      have k6 : pIx (t3 (lt pre)) (.int 0) = some (rt (sA pre)) := ix_tup_0 _ _
      have e1 := sub_ok hl b0 (by omega) (by omega)
      have ba := hl.sub2 b0
      have bu := up_bd b ba hQ.b1 hQ.p1
      have e3 := add_ok (bA.mono (by omega : _ ≤ k + k + 1 + 14)) bu (by omega) (by omega)
      constructor
      · intro z
        have hm : sS b (pre ++ [q]) ≤ sS b qs := by
          rw [e, show pre ++ q :: post = (pre ++ [q]) ++ post by simp, sS_app b (pre ++ [q]) post]
          have : 0 ≤ sS b post := by
            have hpn : ∀ (m : List QP), (∀ x ∈ m, QOk 14 x) → 0 ≤ sS b m := by
              intro m
              induction m with
              | nil => intro _; cases b <;> exact Rat.le_refl
              | cons x m ih =>
                intro hm
                have h1 := ih fun y hy => hm y (List.mem_cons_of_mem _ hy)
                have hx := hm x (by simp)
                cases b
                · have := Rat.mul_nonneg hx.p2 (Rat.le_of_lt hx.p1)
                  simp only [sS, sL] at h1 ⊢
                  grind
                · have := div_nonneg hx.p2 hx.p1
                  simp only [sS, sR] at h1 ⊢
                  grind
            exact hpn post fun x hx => hq x (by rw [e]; simp [hx])
          grind
        grind
      · intro z
        refine ⟨pre, q, post, e, h, hle, ?_⟩
        cases b with
        | true =>
          have e2 := mul_ok ba (hQ.b1.mono (by omega)) (by omega) (by omega)
          have rr := ax_retR g1 (ix_t3 true _) bl g0 (ix_t3 true _) k6 k7 e1 e2 e3 (some (tour qs)) y6
          exact ⟨_, by rw [forGo, e4]; simp only [sid] at rr ⊢; simp only [rr, if_true]; rfl⟩
        | false =>
          have e2 := over_ok ba (hQ.b1.mono (by omega)) hQ.p1 (by omega) (by omega)
          have rr := ax_retL g1 (ix_t3 false _) bl g0 (ix_t3 false _) k6 k7 e1 e2 e3 (some (tour qs)) y6
          exact ⟨_, by rw [forGo, e4]; simp only [sid] at rr ⊢; simp only [Bool.false_eq_true, if_false, rr]; rfl⟩
end Kw

namespace Kw
open PySem PySem.Spec PyProof.Rows L2 Z
def od : Option Rat → D
  | none => .non
  | some x => rt x
/-- what is known of the least age of a light -/
structure Aol (j : Nat) (b : Bool) (qs : List QP) (l : Rat) (o : Option Rat) : Prop where
  no : o = none → sS b qs < l
  le : ∀ a, o = some a → l ≤ sS b qs ∧ 0 ≤ a ∧ (l ≤ 0 → a = 0) ∧ (0 < l → 0 < a ∧ ∃ pre q post s, qs = pre ++ q :: post ∧ 0 ≤ s ∧ s ≤ q.2 ∧ a = sA pre + s ∧ sS b pre + dn b s q.1 = l ∧ Bd j s)
  bd : ∀ a, o = some a → Bd (j + j) a
theorem sS_nn (b : Bool) {qs : List QP} (h : Pos qs) : 0 ≤ sS b qs := by
  cases b
  · exact sL_nn h
  · exact sR_nn h
theorem light_ok {k : Nat} {qs : List QP} {l : Rat} (b : Bool) (hq : ∀ q ∈ qs, QOk 14 q) (hpos : Pos qs) (hp : PB k qs) (hl : Bd k l) (h28 : 28 ≤ k) (hk : k ≤ 400) (hlen : qs.length ≤ 100) :
    ∃ o, B_age_of_light [tour qs, .int (sid b), rt l] = .ok (od o) [none, none, none] ∧ Aol (k + k + 15) b qs l o := by
  have li := lights_ok (x0 := .tup (qs.map pairD)) rfl hq hp (by omega : 2 * 14 ≤ k) (by omega) (by omega) hlen
  have z0 : Bd k (0 : Rat) := Bd.zero (by omega)
  have s1 : al1 [some (tour qs), some (.int (sid b)), some (rt l), none, none, none, none] = .ok .nx [some (tour qs), some (.int (sid b)), some (rt l), some (.lst ((lig qs).map t3)), none, none, none] := by
    generalize (lig qs).map t3 = LL at *
    simp [al1, li]
  have g0 : pIx (.lst ((lig qs).map t3)) (.int 0) = some (t3 (lt [])) := by
    have := ix_lst ((lig qs).map t3) 0
    rw [List.getElem?_map, lig_get (by omega)] at this
    exact this
  have gs := ix_t3 b []
  have e0 : sS b [] = 0 := by cases b <;> rfl
  rw [e0] at gs
  have bl := below_ok z0 hl (by omega) (by omega)
  by_cases h0 : 0 < l
  · rw [decide_eq_true h0] at bl
    have s2 : al2 [some (tour qs), some (.int (sid b)), some (rt l), some (.lst ((lig qs).map t3)), none, none, none] = .ok .nx [some (tour qs), some (.int (sid b)), some (rt l), some (.lst ((lig qs).map t3)), none, none, none] := by
      generalize (lig qs).map t3 = LL at *
      generalize t3 (lt []) = u at *
      simp [al2, g0, gs, bl]
    obtain ⟨i1, i2⟩ := go_ok b hq hp hl (by omega) hk qs [] none none none rfl (by rw [e0]; exact h0)
    have en : pEnt [.tup (qs.map pairD)] = some (enuD (qs.map pairD)) := rfl
    rw [enu_eq] at en
    by_cases hc : l ≤ sS b qs
    · obtain ⟨pr', q, po, e1, e2, e3, r', ez⟩ := i2 hc
      have hQ := hq q (by rw [e1]; simp)
      have hP := hpos q (by rw [e1]; simp)
      have bS := hp.s b pr'.length
      have bA := (hp pr'.length).1
      rw [e1, List.take_left] at bS bA
      have bx := hl.sub2 bS
      have bu := up_bd b bx hQ.b1 hQ.p1
      have xp : 0 < l - sS b pr' := by grind
      have upos := up_pos b hP.1 xp
      have ule : up b (l - sS b pr') q.1 ≤ q.2 := up_le b hP.1 (by
        rw [sS_app, sS_one] at e3
        grind)
      have na := sA_nn (l := pr') fun x m => hpos x (by rw [e1]; simp [m])
      refine ⟨some (sA pr' + up b (l - sS b pr') q.1), ?_, ⟨fun z => (nomatch z), fun a ea => ?_, fun a ea => ?_⟩⟩
      · have s3 : al3 [some (tour qs), some (.int (sid b)), some (rt l), some (.lst ((lig qs).map t3)), none, none, none] = .ok (.rt (rt (sA pr' + up b (l - sS b pr') q.1))) r' := by
          rw [al3_eq]
          have ez' : forGo (gT [(gN 4), (gN 5)]) axl (qs.zipIdx.map pe) [some (tour qs), some (.int (sid b)), some (rt l), some (.lst ((lig qs).map t3)), none, none, none] = _ := ez
          generalize (lig qs).map t3 = LL at *
          generalize qs.zipIdx.map pe = EE at *
          simp [en, ez']
        have run := sSeq_nx (g := sSeq al2 (sSeq al3 al4)) s1
        rw [sSeq_nx s2] at run
        have run3 : sSeq al3 al4 [some (tour qs), some (.int (sid b)), some (rt l), some (.lst ((lig qs).map t3)), none, none, none] = .ok (.rt (rt (sA pr' + up b (l - sS b pr') q.1))) r' := by
          simp only [sSeq, s3]
        rw [run3] at run
        have z : mkB 3 7 [] (sSeq al1 (sSeq al2 (sSeq al3 al4))) [tour qs, .int (sid b), rt l] = _ := mkB_run (n := 3) (m := 7) (io := []) (r0 := [some (tour qs), some (.int (sid b)), some (rt l), none, none, none, none]) rfl rfl run
        rw [keepE3] at z
        rw [B_age_of_light, als]
        exact z
      · cases ea
        refine ⟨hc, by grind, fun z => by grind, fun _ => ⟨by grind, pr', q, po, _, e1, Rat.le_of_lt upos, ule, rfl, ?_, bu.mono (by omega)⟩⟩
        rw [up_dn b hP.1]
        grind
      · cases ea
        exact (bA.add2 bu).mono (by omega)
    · have hc' : sS b qs < l := Rat.not_le.mp hc
      obtain ⟨z4, z5, z6, ez⟩ := i1 hc'
      refine ⟨none, ?_, ⟨fun _ => hc', fun a ea => (nomatch ea), fun a ea => (nomatch ea)⟩⟩
      have s3 : al3 [some (tour qs), some (.int (sid b)), some (rt l), some (.lst ((lig qs).map t3)), none, none, none] = .ok .nx [some (tour qs), some (.int (sid b)), some (rt l), some (.lst ((lig qs).map t3)), z4, z5, z6] := by
        rw [al3_eq]
        have ez' : forGo (gT [(gN 4), (gN 5)]) axl (qs.zipIdx.map pe) [some (tour qs), some (.int (sid b)), some (rt l), some (.lst ((lig qs).map t3)), none, none, none] = _ := ez
        generalize (lig qs).map t3 = LL at *
        generalize qs.zipIdx.map pe = EE at *
        simp [en, ez']
      have s4 : al4 [some (tour qs), some (.int (sid b)), some (rt l), some (.lst ((lig qs).map t3)), z4, z5, z6] = .ok (.rt .non) [some (tour qs), some (.int (sid b)), some (rt l), some (.lst ((lig qs).map t3)), z4, z5, z6] := by simp [al4]
      have run := sSeq_nx (g := sSeq al2 (sSeq al3 al4)) s1
      rw [sSeq_nx s2, sSeq_nx s3, s4] at run
      have z : mkB 3 7 [] (sSeq al1 (sSeq al2 (sSeq al3 al4))) [tour qs, .int (sid b), rt l] = _ := mkB_run (n := 3) (m := 7) (io := []) (r0 := [some (tour qs), some (.int (sid b)), some (rt l), none, none, none, none]) rfl rfl run
      rw [keepE3] at z
      rw [B_age_of_light, als]
      exact z
  · rw [decide_eq_false h0] at bl
    have n0 := new0
    have s2 : al2 [some (tour qs), some (.int (sid b)), some (rt l), some (.lst ((lig qs).map t3)), none, none, none] = .ok (.rt (rt 0)) [some (tour qs), some (.int (sid b)), some (rt l), some (.lst ((lig qs).map t3)), none, none, none] := by
      generalize (lig qs).map t3 = LL at *
      generalize t3 (lt []) = u at *
      simp [al2, g0, gs, bl, n0]
    refine ⟨some 0, ?_, ⟨fun z => (nomatch z), fun a ea => ?_, fun a ea => ?_⟩⟩
    · have run := sSeq_nx (g := sSeq al2 (sSeq al3 al4)) s1
      have run3 : sSeq al2 (sSeq al3 al4) [some (tour qs), some (.int (sid b)), some (rt l), some (.lst ((lig qs).map t3)), none, none, none] = .ok (.rt (rt 0)) [some (tour qs), some (.int (sid b)), some (rt l), some (.lst ((lig qs).map t3)), none, none, none] := by
        simp only [sSeq, s2]
      rw [run3] at run
      have z : mkB 3 7 [] (sSeq al1 (sSeq al2 (sSeq al3 al4))) [tour qs, .int (sid b), rt l] = _ := mkB_run (n := 3) (m := 7) (io := []) (r0 := [some (tour qs), some (.int (sid b)), some (rt l), none, none, none, none]) rfl rfl run
      rw [keepE3] at z
      rw [B_age_of_light, als]
      exact z
    · cases ea
      have := sS_nn b hpos
      exact ⟨by grind, Rat.le_refl, fun _ => rfl, fun z => absurd z h0⟩
    · cases ea
      exact Bd.zero (by omega)
end Kw

namespace Kw
open PySem PySem.Spec PyProof.Rows L2 Z
def nr1 : M Fl := (sAs 3 (eB (oP pIx) (eCd B__law_lights [] (aCons (eV 1) aNil)) (eU (oU pNeg) (eK (.int 1)))))
def nr2 : M Fl := (sFor (itN pRng (aCons (eK (.int 4)) aNil)) (gN 4) (sSeq (sPar [gN 5, gN 6] (aCons (eCo B__law_pick 0 (aCons (eN pLst (aCons (eK (.int 12)) (aCons (eK (.int 90)) (aCons (eK (.int 900)) aNil)))) aNil)) (aCons (eB (oW [(0, B_Ratio___add__)] ["int"] [0, 1] pAdd) (eK (.int 1)) (eCo B__law_draw 0 (aCons (eK (.int 6)) aNil))) aNil))) (sSeq (sPar [gN 7, gN 8] (aCons (eN pTup (aCons (eB (oW [(0, B_Ratio___sub__)] ["int"] [0, 1] pSub) (eCo B__law_draw 0 (aCons (eV 5) aNil)) (eB (oP pDiv) (eV 5) (eK (.int 6)))) (aCons (eV 6) aNil))) (aCons (eN pTup (aCons (eB (oW [(0, B_Ratio___sub__)] ["int"] [0, 1] pSub) (eCo B__law_draw 0 (aCons (eV 5) aNil)) (eB (oP pDiv) (eV 5) (eK (.int 6)))) (aCons (eV 6) aNil))) aNil))) (sSeq (sAs 9 (eCo B__law_pick 0 (aCons (eCd B__law_lights [] (aCons (eV 1) aNil)) aNil))) (sSeq (sIf (tAn (tV (eB (oP pLt) (eN pLen (aCons (eV 1) aNil)) (eK (.int 3)))) (tV (eB (oP pLt) (eN pMax1 (aCons (eLc [14, 15] (itL (eV 1)) (gT [(gN 14), (gN 15)]) tY (eB (oW [(0, B_Ratio___add__)] ["int"] [0, 1] pAdd) (eB (oP pIx) (eV 14) (eK (.int 0))) (eB (oP pIx) (eV 14) (eK (.int 1))))) aNil)) (eK (.int 19))))) (sPar [gN 7, gN 8] (aCons (eCo B__law_pick 0 (aCons (eN pLst (aCons (eB (oP pIx) (eV 9) (eK (.int 1))) (aCons (eV 7) aNil))) aNil)) (aCons (eCo B__law_pick 0 (aCons (eN pLst (aCons (eB (oP pIx) (eV 9) (eK (.int 2))) (aCons (eV 8) aNil))) aNil)) aNil))) sNil) (sSeq (sAs 10 (eCk B_age_of_news 0 2 [1, 0] [] aNil (aCons (eCd B__law_lit [] (aCons (eV 7) (aCons (eV 8) aNil))) (aCons (eV 2) aNil)))) (sSeq (sIf (tOn (tV (eCd B__law_is_less [] (aCons (eB (oP pIx) (eV 3) (eK (.int 1))) (aCons (eV 7) aNil)))) (tV (eCd B__law_is_less [] (aCons (eB (oP pIx) (eV 3) (eK (.int 2))) (aCons (eV 8) aNil))))) (sSeq (sIf (tV (eNotN (eV 10))) (sRet (eK (.bl false))) sNil) sCt) sNil) (sSeq (sIf (tOn (tV (eIsN (eV 10))) (tOn (tNo (tV (eIsi (kO [(0, true), (1, false), (2, false)]) (eV 10)))) (tV (eB (oP pLt) (ePr [(0, B_Ratio_sign)] (eV 10)) (eK (.int 0)))))) (sRet (eK (.bl false))) sNil) (sSeq (sIf (tAn (tV (eB (oP pLe) (eB (oP pIx) (eV 7) (eK (.int 0))) (eK (.int 0)))) (tV (eB (oP pLe) (eB (oP pIx) (eV 8) (eK (.int 0))) (eK (.int 0))))) (sSeq (sIf (tV (eB (oNW [(0, B_Ratio___eq__)] ["int"] [0, 1, 2] pNe) (eV 10) (eK (.int 0)))) (sRet (eK (.bl false))) sNil) sCt) sNil) (sSeq (sPar [gN 11, gN 12] (aCons (eCd B_spot_at [] (aCons (eV 2) (aCons (eV 10) aNil))) (aCons (eN pTup (aCons (eNd 0 B_Ratio___init__ [] (aCons (eB (oP pIx) (eV 7) (eK (.int 0))) (aCons (eB (oP pIx) (eV 7) (eK (.int 1))) aNil))) (aCons (eNd 0 B_Ratio___init__ [] (aCons (eB (oP pIx) (eV 8) (eK (.int 0))) (aCons (eB (oP pIx) (eV 8) (eK (.int 1))) aNil))) aNil))) aNil))) (sSeq (sAs 13 (eN pTup (aCons (eB (oW [(0, B_Ratio___sub__)] ["int"] [0, 1] pSub) (eFl [(1, 0)] (eV 11)) (eB (oP pIx) (eFl [(1, 1)] (eV 11)) (eK (.int 0)))) (aCons (eB (oW [(0, B_Ratio___add__)] ["int"] [0, 1] pAdd) (eFl [(1, 0)] (eV 11)) (eB (oP pIx) (eFl [(1, 1)] (eV 11)) (eK (.int 0)))) aNil)))) (sIf (tOn (tV (eMd [(0, B_Ratio_is_below)] [] (eB (oP pIx) (eV 13) (eK (.int 0))) (aCons (eB (oP pIx) (eV 12) (eK (.int 0))) aNil))) (tOn (tV (eMd [(0, B_Ratio_is_below)] [] (eB (oP pIx) (eV 13) (eK (.int 1))) (aCons (eB (oP pIx) (eV 12) (eK (.int 1))) aNil))) (tAn (tV (eB (oNW [(0, B_Ratio___eq__)] ["int"] [0, 1, 2] pNe) (eB (oP pIx) (eV 13) (eK (.int 0))) (eB (oP pIx) (eV 12) (eK (.int 0))))) (tV (eB (oNW [(0, B_Ratio___eq__)] ["int"] [0, 1, 2] pNe) (eB (oP pIx) (eV 13) (eK (.int 1))) (eB (oP pIx) (eV 12) (eK (.int 1)))))))) (sRet (eK (.bl false))) sNil))))))))))))
def nr3 : M Fl := (sRet (eK (.bl true)))
theorem nrs : b__law_news_right = (sSeq nr1 (sSeq nr2 nr3)) := rfl
def nb1 : M Fl := (sPar [gN 5, gN 6] (aCons (eCo B__law_pick 0 (aCons (eN pLst (aCons (eK (.int 12)) (aCons (eK (.int 90)) (aCons (eK (.int 900)) aNil)))) aNil)) (aCons (eB (oW [(0, B_Ratio___add__)] ["int"] [0, 1] pAdd) (eK (.int 1)) (eCo B__law_draw 0 (aCons (eK (.int 6)) aNil))) aNil)))
def nb2 : M Fl := (sPar [gN 7, gN 8] (aCons (eN pTup (aCons (eB (oW [(0, B_Ratio___sub__)] ["int"] [0, 1] pSub) (eCo B__law_draw 0 (aCons (eV 5) aNil)) (eB (oP pDiv) (eV 5) (eK (.int 6)))) (aCons (eV 6) aNil))) (aCons (eN pTup (aCons (eB (oW [(0, B_Ratio___sub__)] ["int"] [0, 1] pSub) (eCo B__law_draw 0 (aCons (eV 5) aNil)) (eB (oP pDiv) (eV 5) (eK (.int 6)))) (aCons (eV 6) aNil))) aNil)))
def nb3 : M Fl := (sAs 9 (eCo B__law_pick 0 (aCons (eCd B__law_lights [] (aCons (eV 1) aNil)) aNil)))
def nb4 : M Fl := (sIf (tAn (tV (eB (oP pLt) (eN pLen (aCons (eV 1) aNil)) (eK (.int 3)))) (tV (eB (oP pLt) (eN pMax1 (aCons (eLc [14, 15] (itL (eV 1)) (gT [(gN 14), (gN 15)]) tY (eB (oW [(0, B_Ratio___add__)] ["int"] [0, 1] pAdd) (eB (oP pIx) (eV 14) (eK (.int 0))) (eB (oP pIx) (eV 14) (eK (.int 1))))) aNil)) (eK (.int 19))))) (sPar [gN 7, gN 8] (aCons (eCo B__law_pick 0 (aCons (eN pLst (aCons (eB (oP pIx) (eV 9) (eK (.int 1))) (aCons (eV 7) aNil))) aNil)) (aCons (eCo B__law_pick 0 (aCons (eN pLst (aCons (eB (oP pIx) (eV 9) (eK (.int 2))) (aCons (eV 8) aNil))) aNil)) aNil))) sNil)
def nb5 : M Fl := (sAs 10 (eCk B_age_of_news 0 2 [1, 0] [] aNil (aCons (eCd B__law_lit [] (aCons (eV 7) (aCons (eV 8) aNil))) (aCons (eV 2) aNil))))
def nb6 : M Fl := (sIf (tOn (tV (eCd B__law_is_less [] (aCons (eB (oP pIx) (eV 3) (eK (.int 1))) (aCons (eV 7) aNil)))) (tV (eCd B__law_is_less [] (aCons (eB (oP pIx) (eV 3) (eK (.int 2))) (aCons (eV 8) aNil))))) (sSeq (sIf (tV (eNotN (eV 10))) (sRet (eK (.bl false))) sNil) sCt) sNil)
def nb7 : M Fl := (sIf (tOn (tV (eIsN (eV 10))) (tOn (tNo (tV (eIsi (kO [(0, true), (1, false), (2, false)]) (eV 10)))) (tV (eB (oP pLt) (ePr [(0, B_Ratio_sign)] (eV 10)) (eK (.int 0)))))) (sRet (eK (.bl false))) sNil)
def nb8 : M Fl := (sIf (tAn (tV (eB (oP pLe) (eB (oP pIx) (eV 7) (eK (.int 0))) (eK (.int 0)))) (tV (eB (oP pLe) (eB (oP pIx) (eV 8) (eK (.int 0))) (eK (.int 0))))) (sSeq (sIf (tV (eB (oNW [(0, B_Ratio___eq__)] ["int"] [0, 1, 2] pNe) (eV 10) (eK (.int 0)))) (sRet (eK (.bl false))) sNil) sCt) sNil)
def nb9 : M Fl := (sPar [gN 11, gN 12] (aCons (eCd B_spot_at [] (aCons (eV 2) (aCons (eV 10) aNil))) (aCons (eN pTup (aCons (eNd 0 B_Ratio___init__ [] (aCons (eB (oP pIx) (eV 7) (eK (.int 0))) (aCons (eB (oP pIx) (eV 7) (eK (.int 1))) aNil))) (aCons (eNd 0 B_Ratio___init__ [] (aCons (eB (oP pIx) (eV 8) (eK (.int 0))) (aCons (eB (oP pIx) (eV 8) (eK (.int 1))) aNil))) aNil))) aNil)))
def nb10 : M Fl := (sAs 13 (eN pTup (aCons (eB (oW [(0, B_Ratio___sub__)] ["int"] [0, 1] pSub) (eFl [(1, 0)] (eV 11)) (eB (oP pIx) (eFl [(1, 1)] (eV 11)) (eK (.int 0)))) (aCons (eB (oW [(0, B_Ratio___add__)] ["int"] [0, 1] pAdd) (eFl [(1, 0)] (eV 11)) (eB (oP pIx) (eFl [(1, 1)] (eV 11)) (eK (.int 0)))) aNil))))
def nb11 : M Fl := (sIf (tOn (tV (eMd [(0, B_Ratio_is_below)] [] (eB (oP pIx) (eV 13) (eK (.int 0))) (aCons (eB (oP pIx) (eV 12) (eK (.int 0))) aNil))) (tOn (tV (eMd [(0, B_Ratio_is_below)] [] (eB (oP pIx) (eV 13) (eK (.int 1))) (aCons (eB (oP pIx) (eV 12) (eK (.int 1))) aNil))) (tAn (tV (eB (oNW [(0, B_Ratio___eq__)] ["int"] [0, 1, 2] pNe) (eB (oP pIx) (eV 13) (eK (.int 0))) (eB (oP pIx) (eV 12) (eK (.int 0))))) (tV (eB (oNW [(0, B_Ratio___eq__)] ["int"] [0, 1, 2] pNe) (eB (oP pIx) (eV 13) (eK (.int 1))) (eB (oP pIx) (eV 12) (eK (.int 1)))))))) (sRet (eK (.bl false))) sNil)
def nbl : M Fl := (sSeq nb1 (sSeq nb2 (sSeq nb3 (sSeq nb4 (sSeq nb5 (sSeq nb6 (sSeq nb7 (sSeq nb8 (sSeq nb9 (sSeq nb10 nb11))))))))))
theorem nr2_eq : nr2 = sFor (itN pRng (aCons (eK (.int 4)) aNil)) (gN 4) nbl := rfl
def mx : Option Rat → Option Rat → Option Rat
  | some x, some y => some (if x < y then y else x)
  | _, _ => none
theorem news_ok {qs : List QP} {r l t x : Rat} {oR oL : Option Rat} (hR : B_age_of_light [tour qs, .int 1, rt r] = .ok (od oR) [none, none, none]) (hL : B_age_of_light [tour qs, .int 2, rt l] = .ok (od oL) [none, none, none]) (e1 : B_Ratio___sub__ [rt t, rt x] = .ok (rt r) [none, none]) (e2 : B_Ratio___add__ [rt t, rt x] = .ok (rt l) [none, none])
    (hb : ∀ a, oR = some a → ∀ c, oL = some c → B_Ratio_is_below [rt a, rt c] = .ok (.bl (decide (a < c))) [none, none]) : B_age_of_news [tour qs, stp t [x]] = .ok (od (mx oR oL)) [none, none] := by
  have n := need_tour_ok qs (.str "tour")
  have w1 := oW_rt (tb := [(0, B_Ratio___sub__)]) (ts := ["int"]) (cs := [0, 1]) (p := pSub) rfl rfl e1
  have w2 := oW_rt (tb := [(0, B_Ratio___add__)]) (ts := ["int"]) (cs := [0, 1]) (p := pAdd) rfl rfl e2
  have s1 : an1 [some (tour qs), some (stp t [x]), none, none] = .ok .nx [some (tour qs), some (stp t [x]), none, none] := by simp [an1, n]
  have s2 : an2 [some (tour qs), some (stp t [x]), none, none] = .ok .nx [some (tour qs), some (stp t [x]), none, none] := by simp [an2]
  have s3 : an3 [some (tour qs), some (stp t [x]), none, none] = .ok .nx [some (tour qs), some (stp t [x]), none, none] := by simp [an3]
  have s4 : an4 [some (tour qs), some (stp t [x]), none, none] = .ok .nx [some (tour qs), some (stp t [x]), some (od oR), none] := by simp [an4, w1, hR]
  have s5 : an5 [some (tour qs), some (stp t [x]), some (od oR), none] = .ok .nx [some (tour qs), some (stp t [x]), some (od oR), some (od oL)] := by simp [an5, w2, hL]
  have fin : (sSeq an6 an7) [some (tour qs), some (stp t [x]), some (od oR), some (od oL)] = .ok (.rt (od (mx oR oL))) [some (tour qs), some (stp t [x]), some (od oR), some (od oL)] := by
    cases oR with
    | none => simp [an6, an7, od, mx]
    | some a =>
      cases oL with
      | none => simp [an6, an7, od, mx]
      | some c =>
        have h := hb a rfl c rfl
        by_cases hh : a < c
        · simp [an6, an7, od, mx, h, hh]
        · simp [an6, an7, od, mx, h, hh]
  have run := sSeq_nx (g := sSeq an2 (sSeq an3 (sSeq an4 (sSeq an5 (sSeq an6 an7))))) s1
  rw [sSeq_nx s2, sSeq_nx s3, sSeq_nx s4, sSeq_nx s5, fin] at run
  have z : mkB 2 4 [] (sSeq an1 (sSeq an2 (sSeq an3 (sSeq an4 (sSeq an5 (sSeq an6 an7)))))) [tour qs, stp t [x]] = _ := mkB_run (n := 2) (m := 4) (io := []) (r0 := [some (tour qs), some (stp t [x]), none, none]) rfl rfl run
  rw [keepE2] at z
  rw [B_age_of_news, ans]
  exact z
theorem nb1_ok {d d1 d2 far : D} {y : Int} (e1 : B__law_pick [d, .lst [.int 12, .int 90, .int 900]] = .ok far [some d1, none]) (e2 : B__law_draw [d1, .int 6] = .ok (.int y) [some d2, none]) (r1 r2 r3 r4 x5 x6 x7 x8 x9 x10 x11 x12 x13 x14 x15 : Option D) :
    nb1 [some d, r1, r2, r3, r4, x5, x6, x7, x8, x9, x10, x11, x12, x13, x14, x15] = .ok .nx [some d2, r1, r2, r3, r4, some far, some (.int (1 + y)), x7, x8, x9, x10, x11, x12, x13, x14, x15] := by
  simp [nb1, e1, oW_int, e2, gTs, show 3 ≤ big by unfold big; omega]
theorem nb2_ok {d d1 d2 : D} {w b x y v : Int} (e1 : B__law_draw [d, .int w] = .ok (.int x) [some d1, none]) (e2 : B__law_draw [d1, .int w] = .ok (.int y) [some d2, none]) (dv : pDiv (.int w) (.int 6) = some (.int v)) (r1 r2 r3 r4 x7 x8 x9 x10 x11 x12 x13 x14 x15 : Option D) :
    nb2 [some d, r1, r2, r3, r4, some (.int w), some (.int b), x7, x8, x9, x10, x11, x12, x13, x14, x15] = .ok .nx [some d2, r1, r2, r3, r4, some (.int w), some (.int b), some (frD (x - v, b)), some (frD (y - v, b)), x9, x10, x11, x12, x13, x14, x15] := by
  simp [nb2, e1, oW_int, e2, dv, gTs, frD, show 2 ≤ big by unfold big; omega]
theorem nb3_ok {d d1 P F s : D} (e1 : B__law_lights [P] = .ok F [none]) (e2 : B__law_pick [d, F] = .ok s [some d1, none]) (r2 r3 r4 x5 x6 x7 x8 x9 x10 x11 x12 x13 x14 x15 : Option D) :
    nb3 [some d, some P, r2, r3, r4, x5, x6, x7, x8, x9, x10, x11, x12, x13, x14, x15] = .ok .nx [some d1, some P, r2, r3, r4, x5, x6, x7, x8, some s, x10, x11, x12, x13, x14, x15] := by
  simp [nb3, e1, e2]
theorem max_ok {ps : List Part} (h : 1 ≤ ps.length) : ∃ m, pMax1 [.lst (ps.map fun p => D.int (p.a + p.b))] = some (.int m) := by
  have e : ps.map (fun p => D.int (p.a + p.b)) = (ps.map fun p => p.a + p.b).map D.int := by simp
  rw [e]
  unfold pMax1 lisOf
  simp only [Option.bind_some, toInts_map]
  rw [if_neg]
  · exact ⟨_, rfl⟩
  · intro z
    have := congrArg List.length z
    simp at this
    subst this
    simp at h
theorem pick2_ok {n : Nat} {d : D} {u v : Fr} (h : Pen n d) (hn : n ≤ 2 ^ 20) (hu : Fb 141 u) (hv : Fb 141 v) : ∃ w d', B__law_pick [d, .lst [frD u, frD v]] = .ok (frD w) [some d', none] ∧ Fb 141 w ∧ Pen (n + 1) d' := by
  obtain ⟨i, x, d', ei, e, p⟩ := pick_ok (l := [frD u, frD v]) h hn (by simp) (by simp)
  match i, ei with
  | 0, ei => simp at ei; subst ei; exact ⟨u, d', e, hu, p⟩
  | 1, ei => simp at ei; subst ei; exact ⟨v, d', e, hv, p⟩
  | i + 2, ei => simp at ei
theorem nb4_core {d d1 d2 P S R L sR' sL' R' L' : D} {len : Int} {PL : List D} {ML : List D} {m : Int} {y14 y15 : Option D} (hle : pLen [P] = some (.int len)) (hx : itemsOf P = some PL) (hb : PL.length ≤ big)
    (e1 : lcGo [14, 15] (gT [(gN 14), (gN 15)]) tY (eB (oW [(0, B_Ratio___add__)] ["int"] [0, 1] pAdd) (eB (oP pIx) (eV 14) (eK (.int 0))) (eB (oP pIx) (eV 14) (eK (.int 1)))) PL [some d, some P, r2, r3, r4, x5, x6, some R, some L, some S, x10, x11, x12, x13, none, none] = some (ML, [some d, some P, r2, r3, r4, x5, x6, some R, some L, some S, x10, x11, x12, x13, y14, y15]))
    (hm : pMax1 [.lst ML] = some (.int m)) (h1 : pIx S (.int 1) = some sR') (h2 : pIx S (.int 2) = some sL') (p1 : B__law_pick [d, .lst [sR', R]] = .ok R' [some d1, none]) (p2 : B__law_pick [d1, .lst [sL', L]] = .ok L' [some d2, none]) :
    nb4 [some d, some P, r2, r3, r4, x5, x6, some R, some L, some S, x10, x11, x12, x13, none, none] = if len < 3 ∧ m < 19 then .ok .nx [some d2, some P, r2, r3, r4, x5, x6, some R', some L', some S, x10, x11, x12, x13, none, none] else .ok .nx [some d, some P, r2, r3, r4, x5, x6, some R, some L, some S, x10, x11, x12, x13, none, none] := by
  by_cases a : len < 3
  · by_cases c : m < 19
    · simp [nb4, hle, a, hx, hb, e1, lcOut, backE, hm, c, h1, h2, p1, p2, gTs, show 2 ≤ big by unfold big; omega]
    · simp [nb4, hle, a, hx, hb, e1, lcOut, backE, hm, c]
  · simp [nb4, hle, a]
theorem nb4_ok {n : Nat} {d : D} {ps : List Part} {x : F3} {R L : Fr} (h : Pen n d) (hn : n ≤ 2 ^ 10) (h1 : 1 ≤ ps.length) (h7 : ps.length ≤ 7) (hx : F3b 141 x) (hR : Fb 141 R) (hL : Fb 141 L) (r2 r3 r4 x5 x6 x10 x11 x12 x13 : Option D) :
    ∃ d' R' L', nb4 [some d, some (.lst (ps.map pD)), r2, r3, r4, x5, x6, some (frD R), some (frD L), some (f3D x), x10, x11, x12, x13, none, none] = .ok .nx [some d', some (.lst (ps.map pD)), r2, r3, r4, x5, x6, some (frD R'), some (frD L'), some (f3D x), x10, x11, x12, x13, none, none] ∧ Fb 141 R' ∧ Fb 141 L' ∧ Pen (n + 2) d' := by
  obtain ⟨R', d1, p1, b1, q1⟩ := pick2_ok h (by omega) hx.r hR
  obtain ⟨L', d2, p2, b2, q2⟩ := pick2_ok q1 (by omega) hx.l hL
  obtain ⟨m, hm⟩ := max_ok h1
  have hle : pLen [.lst (ps.map pD)] = some (.int (ps.length : Nat)) := by rw [pLen_lst]; simp
  obtain ⟨r', ⟨y14, y15, rfl⟩, e1⟩ := lc_map (vs := [14, 15]) (g := gT [(gN 14), (gN 15)]) (t := tY) (f := eB (oW [(0, B_Ratio___add__)] ["int"] [0, 1] pAdd) (eB (oP pIx) (eV 14) (eK (.int 0))) (eB (oP pIx) (eV 14) (eK (.int 1)))) pD (fun p => D.int (p.a + p.b)) (fun r => ∃ y14 y15, r = [some d, some (.lst (ps.map pD)), r2, r3, r4, x5, x6, some (frD R), some (frD L), some (f3D x), x10, x11, x12, x13, y14, y15]) ps (fun p mm r ⟨y14, y15, er⟩ => by
    subst er
    refine ⟨[some d, some (.lst (ps.map pD)), r2, r3, r4, x5, x6, some (frD R), some (frD L), some (f3D x), x10, x11, x12, x13, some (.tup [.int p.a, .int p.b]), some (.tup [.int p.c, .int p.d])], [some d, some (.lst (ps.map pD)), r2, r3, r4, x5, x6, some (frD R), some (frD L), some (f3D x), x10, x11, x12, x13, some (.tup [.int p.a, .int p.b]), some (.tup [.int p.c, .int p.d])], by simp [wipeE, pD, itemsOf, gTs], rfl, by simp [oW_int], _, _, rfl⟩) [some d, some (.lst (ps.map pD)), r2, r3, r4, x5, x6, some (frD R), some (frD L), some (f3D x), x10, x11, x12, x13, none, none] ⟨none, none, rfl⟩
  have core := nb4_core hle rfl (by rw [List.length_map]; unfold big; omega) e1 hm (ix_tup_1 _ _ _) (ix_tup_2 _ _ _ _) p1 p2
  rw [core]
  split
  · exact ⟨d2, R', L', rfl, b1, b2, q2⟩
  · exact ⟨d, R, L, rfl, hR, hL, h.mono (by omega)⟩
theorem nb5_ok {T R L s o : D} (e1 : B__law_lit [R, L] = .ok s [none, none]) (e2 : B_age_of_news [T, s] = .ok o [none, none]) (r0 r1 r3 r4 x5 x6 x9 x10 x11 x12 x13 x14 x15 : Option D) :
    nb5 [r0, r1, some T, r3, r4, x5, x6, some R, some L, x9, x10, x11, x12, x13, x14, x15] = .ok .nx [r0, r1, some T, r3, r4, x5, x6, some R, some L, x9, some o, x11, x12, x13, x14, x15] := by
  simp [nb5, e1, permL, e2]
theorem nb6_ok {E0 E1 E2 R L : D} {o : Option Rat} {b1 b2 : Bool} (h1 : pIx E0 (.int 1) = some E1) (h2 : pIx E0 (.int 2) = some E2) (e1 : B__law_is_less [E1, R] = .ok (.bl b1) [none, none]) (e2 : B__law_is_less [E2, L] = .ok (.bl b2) [none, none]) (ho : o = none ↔ (b1 || b2) = true) (r0 r1 r2 r4 x5 x6 x9 x11 x12 x13 x14 x15 : Option D) :
    nb6 [r0, r1, r2, some E0, r4, x5, x6, some R, some L, x9, some (od o), x11, x12, x13, x14, x15] = .ok (if b1 || b2 then .ct else .nx) [r0, r1, r2, some E0, r4, x5, x6, some R, some L, x9, some (od o), x11, x12, x13, x14, x15] := by
  cases b1 with
  | true =>
    have := ho.mpr (by simp)
    subst this
    simp [nb6, h1, h2, e1, e2, od]
  | false =>
    cases b2 with
    | true =>
      have := ho.mpr (by simp)
      subst this
      simp [nb6, h1, h2, e1, e2, od]
    | false => simp [nb6, h1, h2, e1, e2]
theorem nb7_ok {f : Rat} (hf : 0 ≤ f) (r0 r1 r2 r3 r4 x5 x6 x7 x8 x9 x11 x12 x13 x14 x15 : Option D) :
    nb7 [r0, r1, r2, r3, r4, x5, x6, x7, x8, x9, some (rt f), x11, x12, x13, x14, x15] = .ok .nx [r0, r1, r2, r3, r4, x5, x6, x7, x8, x9, some (rt f), x11, x12, x13, x14, x15] := by
  have sg := sign_ok f
  have sn : ¬ f.num.sign < 0 := fun z => by
    have := (sg_neg f).mp z
    grind
  generalize f.num.sign = sgn at *
  simp [nb7, kO, sg, sn]
theorem nb8_ok {f : Rat} {R L : Fr} (hf : R.1 ≤ 0 ∧ L.1 ≤ 0 → f = 0) (r0 r1 r2 r3 r4 x5 x6 x9 x11 x12 x13 x14 x15 : Option D) :
    nb8 [r0, r1, r2, r3, r4, x5, x6, some (frD R), some (frD L), x9, some (rt f), x11, x12, x13, x14, x15] = .ok (if R.1 ≤ 0 ∧ L.1 ≤ 0 then .ct else .nx) [r0, r1, r2, r3, r4, x5, x6, some (frD R), some (frD L), x9, some (rt f), x11, x12, x13, x14, x15] := by
  have i0 := ix_f0 R
  have j0 := ix_f0 L
  generalize frD R = RR at *
  generalize frD L = LL at *
  by_cases a : R.1 ≤ 0
  · by_cases c : L.1 ≤ 0
    · have := hf ⟨a, c⟩
      subst this
      have e := eq_int 0 0
      have cc : ∀ r, oNW [(0, B_Ratio___eq__)] ["int"] [0, 1, 2] pNe (rt 0) (.int 0) r = .ok (.bl false) r := fun r => by
        simp [oNW, rk, tyN, e, negO]
      simp [nb8, i0, j0, a, c, cc]
    · simp [nb8, i0, j0, a, c]
  · simp [nb8, i0, j0, a]
theorem nb9_ok {T s o : D} {R L : Fr} {r l : Rat} (e : B_spot_at [T, o] = .ok s [none, none]) (h1 : B_Ratio___init__ [.ob 0 [], .int R.1, .int R.2] = .ok .non [some (rt r), none, none]) (h2 : B_Ratio___init__ [.ob 0 [], .int L.1, .int L.2] = .ok .non [some (rt l), none, none]) (r0 r1 r3 r4 x5 x6 x9 x11 x12 x13 x14 x15 : Option D) :
    nb9 [r0, r1, some T, r3, r4, x5, x6, some (frD R), some (frD L), x9, some o, x11, x12, x13, x14, x15] = .ok .nx [r0, r1, some T, r3, r4, x5, x6, some (frD R), some (frD L), x9, some o, some s, some (.tup [rt r, rt l]), x13, x14, x15] := by
  have i0 := ix_f0 R
  have i1 := ix_f1 R
  have j0 := ix_f0 L
  have j1 := ix_f1 L
  generalize frD R = RR at *
  generalize frD L = LL at *
  simp [nb9, e, i0, i1, j0, j1, h1, h2, gTs, show 2 ≤ big by unfold big; omega]
theorem nb10_ok {t x a c : Rat} (e1 : B_Ratio___sub__ [rt t, rt x] = .ok (rt a) [none, none]) (e2 : B_Ratio___add__ [rt t, rt x] = .ok (rt c) [none, none]) (r0 r1 r2 r3 r4 x5 x6 x7 x8 x9 x10 x12 x13 x14 x15 : Option D) :
    nb10 [r0, r1, r2, r3, r4, x5, x6, x7, x8, x9, x10, some (stp t [x]), x12, x13, x14, x15] = .ok .nx [r0, r1, r2, r3, r4, x5, x6, x7, x8, x9, x10, some (stp t [x]), x12, some (.tup [rt a, rt c]), x14, x15] := by
  have w1 := oW_rt (tb := [(0, B_Ratio___sub__)]) (ts := ["int"]) (cs := [0, 1]) (p := pSub) rfl rfl e1
  have w2 := oW_rt (tb := [(0, B_Ratio___add__)]) (ts := ["int"]) (cs := [0, 1]) (p := pAdd) rfl rfl e2
  simp [nb10, w1, w2, show 2 ≤ big by unfold big; omega]
theorem nb11_ok {a c r l : Rat} (e1 : B_Ratio_is_below [rt a, rt r] = .ok (.bl false) [none, none]) (e2 : B_Ratio_is_below [rt c, rt l] = .ok (.bl false) [none, none]) (h : a = r ∨ c = l) (r0 r1 r2 r3 r4 x5 x6 x7 x8 x9 x10 x11 x14 x15 : Option D) :
    nb11 [r0, r1, r2, r3, r4, x5, x6, x7, x8, x9, x10, x11, some (.tup [rt r, rt l]), some (.tup [rt a, rt c]), x14, x15] = .ok .nx [r0, r1, r2, r3, r4, x5, x6, x7, x8, x9, x10, x11, some (.tup [rt r, rt l]), some (.tup [rt a, rt c]), x14, x15] := by
  have c1 := ne_rt (tb := [(0, B_Ratio___eq__)]) rfl a r
  have c2 := ne_rt (tb := [(0, B_Ratio___eq__)]) rfl c l
  by_cases ha : a = r
  · subst ha
    simp [nb11, e1, e2, c1]
  · have hc : c = l := h.resolve_left ha
    subst hc
    simp [nb11, e1, e2, c1, c2, ha]
end Kw

namespace Kw
open PySem PySem.Spec PyProof.Rows L2 Z
theorem sSeq_ct {f g : M Fl} {r r1 : Ev} (h : f r = .ok .ct r1) : sSeq f g r = .ok .ct r1 := by
  simp only [sSeq, h]
theorem cut_sums {qs pre post : List QP} {q : QP} {s : Rat} (hpos : Pos qs) (e : qs = pre ++ q :: post) (h0 : 0 ≤ s) (h1 : s ≤ q.2) : sR (cut qs (sA pre + s)) = sR pre + s / q.1 ∧ sL (cut qs (sA pre + s)) = sL pre + s * q.1 := by
  have hc : cut qs (sA pre + s) = pre ++ (q.1, s) :: zs post := by
    rw [e] at hpos ⊢
    exact cut_at h0 h1 (fun x m => hpos x (by simp [m])) (fun x m => hpos x (by simp [m]))
  rw [hc]
  exact (zs_app_sums pre q s post).2
theorem cut_nn {qs : List QP} {f : Rat} (hpos : Pos qs) (hf : 0 ≤ f) : 0 ≤ sR (cut qs f) ∧ 0 ≤ sL (cut qs f) := by
  obtain ⟨h1, h2⟩ := cut_mono hpos hf
  rw [cut_zero hpos] at h1 h2
  obtain ⟨_, z2, z3⟩ := zs_sums qs
  rw [z2] at h1
  rw [z3] at h2
  exact ⟨h1, h2⟩
theorem found_ok {j : Nat} {qs : List QP} {r l a c : Rat} (hpos : Pos qs) (A : Aol j true qs r (some a)) (C : Aol j false qs l (some c)) (hn : ¬ (r ≤ 0 ∧ l ≤ 0)) :
    ∃ pre q post s, qs = pre ++ q :: post ∧ 0 ≤ s ∧ s ≤ q.2 ∧ (if a < c then c else a) = sA pre + s ∧ Bd j s ∧ r ≤ sR pre + s / q.1 ∧ l ≤ sL pre + s * q.1 ∧ (sR pre + s / q.1 = r ∨ sL pre + s * q.1 = l) := by
  obtain ⟨a1, a2, a3, a4⟩ := A.le a rfl
  obtain ⟨c1, c2, c3, c4⟩ := C.le c rfl
  by_cases h : a < c
  · have hl : 0 < l := by
      apply Rat.not_le.mp
      intro z
      have := c3 z
      grind
    obtain ⟨_, pre, q, post, s, e, s0, s1, ec, es, bs⟩ := c4 hl
    obtain ⟨k1, k2⟩ := cut_sums hpos e s0 s1
    rw [← ec] at k1 k2
    have es' : sL pre + s * q.1 = l := es
    refine ⟨pre, q, post, s, e, s0, s1, by rw [if_pos h, ec], bs, ?_, by rw [es']; exact Rat.le_refl, .inr es'⟩
    rw [← k1]
    by_cases hr : 0 < r
    · obtain ⟨_, pre', q', post', s', e', s0', s1', ec', es', bs'⟩ := a4 hr
      obtain ⟨m1, _⟩ := cut_sums hpos e' s0' s1'
      rw [← ec'] at m1
      have es'' : sR pre' + s' / q'.1 = r := es'
      have := (cut_mono hpos (Rat.le_of_lt h)).1
      rw [m1, es''] at this
      exact this
    · have := (cut_nn hpos c2).1
      have := Rat.not_lt.mp hr
      grind
  · have hca : c ≤ a := Rat.not_lt.mp h
    have hr : 0 < r := by
      apply Rat.not_le.mp
      intro z
      have a0 := a3 z
      by_cases hl : 0 < l
      · have := (c4 hl).1
        grind
      · exact hn ⟨z, Rat.not_lt.mp hl⟩
    obtain ⟨_, pre, q, post, s, e, s0, s1, ec, es, bs⟩ := a4 hr
    obtain ⟨k1, k2⟩ := cut_sums hpos e s0 s1
    rw [← ec] at k1 k2
    have es' : sR pre + s / q.1 = r := es
    refine ⟨pre, q, post, s, e, s0, s1, by rw [if_neg h, ec], bs, by rw [es']; exact Rat.le_refl, ?_, .inl es'⟩
    rw [← k2]
    by_cases hl : 0 < l
    · obtain ⟨_, pre', q', post', s', e', s0', s1', ec', es2, bs'⟩ := c4 hl
      obtain ⟨_, m2⟩ := cut_sums hpos e' s0' s1'
      rw [← ec'] at m2
      have es'' : sL pre' + s' * q'.1 = l := es2
      have := (cut_mono hpos hca).2
      rw [m2, es''] at this
      exact this
    · have := (cut_nn hpos a2).2
      have := Rat.not_lt.mp hl
      grind
theorem aol_none {j : Nat} {b : Bool} {qs : List QP} {l : Rat} {o : Option Rat} (A : Aol j b qs l o) : o = none ↔ sS b qs < l := by
  constructor
  · exact A.no
  · intro z
    cases o with
    | none => rfl
    | some a =>
      have := (A.le a rfl).1
      grind
theorem mx_none {o p : Option Rat} : mx o p = none ↔ o = none ∨ p = none := by
  cases o <;> cases p <;> simp [mx]
theorem nb_ct6 {r0 r1 r2 r3 r4 r5 r6 : Ev} (s1 : nb1 r0 = .ok .nx r1) (s2 : nb2 r1 = .ok .nx r2) (s3 : nb3 r2 = .ok .nx r3) (s4 : nb4 r3 = .ok .nx r4) (s5 : nb5 r4 = .ok .nx r5) (s6 : nb6 r5 = .ok .ct r6) : nbl r0 = .ok .ct r6 := by
  show sSeq nb1 _ r0 = _
  rw [sSeq_nx s1, sSeq_nx s2, sSeq_nx s3, sSeq_nx s4, sSeq_nx s5, sSeq_ct s6]
theorem nb_ct8 {r0 r1 r2 r3 r4 r5 r6 r7 r8 : Ev} (s1 : nb1 r0 = .ok .nx r1) (s2 : nb2 r1 = .ok .nx r2) (s3 : nb3 r2 = .ok .nx r3) (s4 : nb4 r3 = .ok .nx r4) (s5 : nb5 r4 = .ok .nx r5) (s6 : nb6 r5 = .ok .nx r6) (s7 : nb7 r6 = .ok .nx r7) (s8 : nb8 r7 = .ok .ct r8) : nbl r0 = .ok .ct r8 := by
  show sSeq nb1 _ r0 = _
  rw [sSeq_nx s1, sSeq_nx s2, sSeq_nx s3, sSeq_nx s4, sSeq_nx s5, sSeq_nx s6, sSeq_nx s7, sSeq_ct s8]
theorem nb_nx {r0 r1 r2 r3 r4 r5 r6 r7 r8 r9 r10 r11 : Ev} (s1 : nb1 r0 = .ok .nx r1) (s2 : nb2 r1 = .ok .nx r2) (s3 : nb3 r2 = .ok .nx r3) (s4 : nb4 r3 = .ok .nx r4) (s5 : nb5 r4 = .ok .nx r5) (s6 : nb6 r5 = .ok .nx r6) (s7 : nb7 r6 = .ok .nx r7) (s8 : nb8 r7 = .ok .nx r8) (s9 : nb9 r8 = .ok .nx r9) (s10 : nb10 r9 = .ok .nx r10) (s11 : nb11 r10 = .ok .nx r11) : nbl r0 = .ok .nx r11 := by
  show sSeq nb1 _ r0 = _
  rw [sSeq_nx s1, sSeq_nx s2, sSeq_nx s3, sSeq_nx s4, sSeq_nx s5, sSeq_nx s6, sSeq_nx s7, sSeq_nx s8, sSeq_nx s9, sSeq_nx s10, s11]
theorem lapN_ok {n : Nat} {d : D} {ps : List Part} (h : Pen n d) (hn : n ≤ 2 ^ 9) (ho : ∀ q ∈ ps, POk 9000 q) (h1 : 1 ≤ ps.length) (h7 : ps.length ≤ 7) (r4 x5 x6 x7 x8 x9 x10 x11 x12 x13 : Option D) :
    ∃ c d' y5 y6 y7 y8 y9 y10 y11 y12 y13, (c = Fl.nx ∨ c = Fl.ct) ∧ nbl [some d, some (.lst (ps.map pD)), some (tour (ps.map pr)), some (f3D (fl ps)), r4, x5, x6, x7, x8, x9, x10, x11, x12, x13, none, none] = .ok c [some d', some (.lst (ps.map pD)), some (tour (ps.map pr)), some (f3D (fl ps)), r4, y5, y6, y7, y8, y9, y10, y11, y12, y13, none, none] ∧ Pen (n + 7) d' := by
  obtain ⟨i, x, d1, ei, e1, p1⟩ := pick_ok (l := [.int 12, .int 90, .int 900]) h (by omega) (by simp) (by simp)
  obtain ⟨w, hx, hw⟩ : ∃ w, x = .int w ∧ (w = 12 ∨ w = 90 ∨ w = 900) := by
    match i, ei with
    | 0, ei => simp at ei; exact ⟨12, ei.symm, .inl rfl⟩
    | 1, ei => simp at ei; exact ⟨90, ei.symm, .inr (.inl rfl)⟩
    | 2, ei => simp at ei; exact ⟨900, ei.symm, .inr (.inr rfl)⟩
    | i + 3, ei => simp at ei
  subst hx
  obtain ⟨y, d2, e2, y0, y1, p2⟩ := draw_ok (m := 6) p1 (by omega) (by decide) (by decide)
  obtain ⟨u, d3, e3, u0, u1, p3⟩ := draw_ok (m := w) p2 (by omega) (by omega) (by omega)
  obtain ⟨v, d4, e4, v0, v1, p4⟩ := draw_ok (m := w) p3 (by omega) (by omega) (by omega)
  have dv : pDiv (.int w) (.int 6) = some (.int (w.fdiv 6)) := pDiv_int (wd_of (k := 7) (by decide) (by omega) (by omega)) (by decide)
  have hv : 0 ≤ w.fdiv 6 ∧ w.fdiv 6 ≤ 150 := by
    rcases hw with h | h | h <;> (subst h; decide)
  generalize hvv : w.fdiv 6 = z at *
  have bR0 : Fb 141 (u - z, 1 + y) := Fb.mono (k := 20) ⟨by show 0 < 1 + y; omega, by show (u - z).natAbs < _; omega, by show (1 + y).natAbs < _; omega⟩ (by omega)
  have bL0 : Fb 141 (v - z, 1 + y) := Fb.mono (k := 20) ⟨by show 0 < 1 + y; omega, by show (v - z).natAbs < _; omega, by show (1 + y).natAbs < _; omega⟩ (by omega)
  have el := law_lights_ok ho (by omega)
  obtain ⟨i2, s, d5, ei2, e5, p5⟩ := pick_ok (l := (flig ps).map f3D) p4 (by omega) (by simp) (by simp; omega)
  obtain ⟨i3, hi3, hs⟩ : ∃ i3, i3 ≤ ps.length ∧ s = f3D (fl (ps.take i3)) := by
    have hlt : i2 < ps.length + 1 := by
      have := (List.getElem?_eq_some_iff.mp ei2).1
      simpa using this
    rw [List.getElem?_map, flig_get (by omega)] at ei2
    exact ⟨i2, by omega, (Option.some.inj ei2).symm⟩
  subst hs
  obtain ⟨fb3, _⟩ := fl_ok _ (ps.take i3) rfl fun q m => ho q (List.mem_of_mem_take m)
  have hli : (ps.take i3).length ≤ 7 := by simp; omega
  have fb141 : F3b 141 (fl (ps.take i3)) := ⟨fb3.a.mono (by omega), fb3.r.mono (by omega), fb3.l.mono (by omega)⟩
  obtain ⟨d6, R, L, e6, bR, bL, p6⟩ := nb4_ok (R := (u - z, 1 + y)) (L := (v - z, 1 + y)) p5 (by omega) h1 h7 fb141 bR0 bL0 (some (tour (ps.map pr))) (some (f3D (fl ps))) r4 (some (.int w)) (some (.int (1 + y))) x10 x11 x12 x13
  have p7 : Pen (n + 7) d6 := p6
  have hpos := pos_of ho
  obtain ⟨qk, _⟩ := qs_ok ho
  have hpb := (PB_of ho).mono (by omega : _ ≤ 141)
  obtain ⟨fE, w1, w2, w3⟩ := fl_ok _ ps rfl ho
  have hlen : (ps.map pr).length = ps.length := by simp
  generalize hqs : ps.map pr = qs at *
  have lit := law_lit_ok bR bL (by omega) (by omega)
  obtain ⟨oR, hR, AR⟩ := light_ok (k := 141) true qk hpos hpb bR.bd (by omega) (by omega) (by omega)
  obtain ⟨oL, hL, AL⟩ := light_ok (k := 141) false qk hpos hpb bL.bd (by omega) (by omega) (by omega)
  have bT := ((bR.bd.add2 bL.bd).mul2 hf_bd)
  have bX := ((bL.bd.sub2 bR.bd).mul2 hf_bd)
  have g1 := sub_ok bT bX (by omega) (by omega)
  have g2 := add_ok bT bX (by omega) (by omega)
  have f1 : (fv R + fv L) * hf - (fv L - fv R) * hf = fv R := by rw [hf_eq]; grind
  have f2 : (fv R + fv L) * hf + (fv L - fv R) * hf = fv L := by rw [hf_eq]; grind
  rw [f1] at g1
  rw [f2] at g2
  have nw := news_ok hR hL g1 g2 (fun a ea c ec => below_ok (AR.bd a ea) (AL.bd c ec) (by omega) (by omega))
  have l1 := less_ok (k := 141) (f := (fl ps).2.1) (g := R) (fE.r.mono (by omega)) bR (by omega) (by omega)
  have l2 := less_ok (k := 141) (f := (fl ps).2.2) (g := L) (fE.l.mono (by omega)) bL (by omega) (by omega)
  rw [w2] at l1
  rw [w3] at l2
  have ho' : mx oR oL = none ↔ (decide (sR qs < fv R) || decide (sL qs < fv L)) = true := by
    rw [mx_none, aol_none AR, aol_none AL]
    simp [sS]
  have t1 := nb1_ok e1 e2 (some (.lst (ps.map pD))) (some (tour qs)) (some (f3D (fl ps))) r4 x5 x6 x7 x8 x9 x10 x11 x12 x13 none none
  have t2 := nb2_ok (b := 1 + y) e3 e4 dv (some (.lst (ps.map pD))) (some (tour qs)) (some (f3D (fl ps))) r4 x7 x8 x9 x10 x11 x12 x13 none none
  have t3 := nb3_ok el e5 (some (tour qs)) (some (f3D (fl ps))) r4 (some (.int w)) (some (.int (1 + y))) (some (frD (u - z, 1 + y))) (some (frD (v - z, 1 + y))) x9 x10 x11 x12 x13 none none
  have t5 := nb5_ok lit nw (some d6) (some (.lst (ps.map pD))) (some (f3D (fl ps))) r4 (some (.int w)) (some (.int (1 + y))) (some (f3D (fl (ps.take i3)))) x10 x11 x12 x13 none none
  have t6 := nb6_ok (E0 := f3D (fl ps)) (ix_tup_1 _ _ _) (ix_tup_2 _ _ _ _) l1 l2 ho' (some d6) (some (.lst (ps.map pD))) (some (tour qs)) r4 (some (.int w)) (some (.int (1 + y))) (some (f3D (fl (ps.take i3)))) x11 x12 x13 none none
  by_cases hb : (decide (sR qs < fv R) || decide (sL qs < fv L)) = true
  · rw [if_pos hb] at t6
    exact ⟨.ct, d6, _, _, _, _, _, _, _, _, _, .inr rfl, nb_ct6 t1 t2 t3 e6 t5 t6, p7⟩
  · rw [if_neg hb] at t6
    have hne : ¬ mx oR oL = none := fun q => hb (ho'.mp q)
    rw [mx_none] at hne
    match oR, oL, AR, AL, hR, hL, nw, t5, t6, hne with
    | none, _, _, _, _, _, _, _, _, hne => exact absurd (.inl rfl) hne
    | some _, none, _, _, _, _, _, _, _, hne => exact absurd (.inr rfl) hne
    | some a, some c, AR, AL, hR, hL, nw, t5, t6, _ =>
      have a0 := (AR.le a rfl).2.1
      have c0 := (AL.le c rfl).2.1
      have a3 := (AR.le a rfl).2.2.1
      have c3 := (AL.le c rfl).2.2.1
      have hf0 : 0 ≤ (if a < c then c else a) := by split <;> assumption
      have t7 := nb7_ok hf0 (some d6) (some (.lst (ps.map pD))) (some (tour qs)) (some (f3D (fl ps))) r4 (some (.int w)) (some (.int (1 + y))) (some (frD R)) (some (frD L)) (some (f3D (fl (ps.take i3)))) x11 x12 x13 none none
      have nR : R.1 ≤ 0 ↔ fv R ≤ 0 := by
        have := fv_pos (f := R) bR.pos
        constructor
        · intro q; exact Rat.not_lt.mp fun q2 => by have := this.mp q2; omega
        · intro q
          by_cases q3 : 0 < R.1
          · have := this.mpr q3; grind
          · omega
      have nL : L.1 ≤ 0 ↔ fv L ≤ 0 := by
        have := fv_pos (f := L) bL.pos
        constructor
        · intro q; exact Rat.not_lt.mp fun q2 => by have := this.mp q2; omega
        · intro q
          by_cases q3 : 0 < L.1
          · have := this.mpr q3; grind
          · omega
      have t8 := nb8_ok (f := if a < c then c else a) (R := R) (L := L) (fun q => by
        have := a3 (nR.mp q.1)
        have := c3 (nL.mp q.2)
        split <;> assumption) (some d6) (some (.lst (ps.map pD))) (some (tour qs)) (some (f3D (fl ps))) r4 (some (.int w)) (some (.int (1 + y))) (some (f3D (fl (ps.take i3)))) x11 x12 x13 none none
      by_cases hz : R.1 ≤ 0 ∧ L.1 ≤ 0
      · rw [if_pos hz] at t8
        exact ⟨.ct, d6, _, _, _, _, _, _, _, _, _, .inr rfl, nb_ct8 t1 t2 t3 e6 t5 t6 t7 t8, p7⟩
      · rw [if_neg hz] at t8
        have hz' : ¬ (fv R ≤ 0 ∧ fv L ≤ 0) := fun q => hz ⟨nR.mpr q.1, nL.mpr q.2⟩
        obtain ⟨pre, q, post, sx, eq, s0, s1, ef, bs, k1, k2, k3⟩ := found_ok hpos AR AL hz'
        have sp := (spot_in (k := 141) (j := 297) eq qk hpos hpb s0 s1 bs (by omega) (by omega) (by omega) (by omega)).1
        rw [← ef] at sp
        have z1 := B_ratio (n := R.1) (d := R.2) bR.pos (Nat.lt_of_lt_of_le bR.d (Nat.pow_le_pow_right (by omega) (by omega)))
        have z2 := B_ratio (n := L.1) (d := L.2) bL.pos (Nat.lt_of_lt_of_le bL.d (Nat.pow_le_pow_right (by omega) (by omega)))
        have hQ := qk q (by rw [eq]; simp)
        have bp := hpb pre.length
        rw [eq, List.take_left] at bp
        have br : Bd 460 (sR pre + sx / q.1) := (bp.2.1.add2 (bs.div2 hQ.b1 hQ.p1)).mono (by omega)
        have bl : Bd 460 (sL pre + sx * q.1) := (bp.2.2.add2 (bs.mul2 hQ.b1)).mono (by omega)
        have bt := (br.add2 bl).mul2 hf_bd
        have bx := (bl.sub2 br).mul2 hf_bd
        have m1 := sub_ok bt bx (by omega) (by omega)
        have m2 := add_ok bt bx (by omega) (by omega)
        rw [show (sR pre + sx / q.1 + (sL pre + sx * q.1)) * hf - (sL pre + sx * q.1 - (sR pre + sx / q.1)) * hf = sR pre + sx / q.1 by rw [hf_eq]; grind] at m1
        rw [show (sR pre + sx / q.1 + (sL pre + sx * q.1)) * hf + (sL pre + sx * q.1 - (sR pre + sx / q.1)) * hf = sL pre + sx * q.1 by rw [hf_eq]; grind] at m2
        have n1 := below_no br (bR.bd.mono (by omega)) (by omega) (by omega) k1
        have n2 := below_no bl (bL.bd.mono (by omega)) (by omega) (by omega) k2
        have t9 := nb9_ok sp z1 z2 (some d6) (some (.lst (ps.map pD))) (some (f3D (fl ps))) r4 (some (.int w)) (some (.int (1 + y))) (some (f3D (fl (ps.take i3)))) x11 x12 x13 none none
        have t10 := nb10_ok m1 m2 (some d6) (some (.lst (ps.map pD))) (some (tour qs)) (some (f3D (fl ps))) r4 (some (.int w)) (some (.int (1 + y))) (some (frD R)) (some (frD L)) (some (f3D (fl (ps.take i3)))) (some (rt (if a < c then c else a))) (some (.tup [rt (fv R), rt (fv L)])) x13 none none
        have t11 := nb11_ok n1 n2 k3 (some d6) (some (.lst (ps.map pD))) (some (tour qs)) (some (f3D (fl ps))) r4 (some (.int w)) (some (.int (1 + y))) (some (frD R)) (some (frD L)) (some (f3D (fl (ps.take i3)))) (some (rt (if a < c then c else a))) (some (stp ((sR pre + sx / q.1 + (sL pre + sx * q.1)) * hf) [(sL pre + sx * q.1 - (sR pre + sx / q.1)) * hf])) none none
        exact ⟨.nx, d6, _, _, _, _, _, _, _, _, _, .inl rfl, nb_nx t1 t2 t3 e6 t5 t6 t7 t8 t9 t10 t11, p7⟩
end Kw

namespace Kw
open PySem PySem.Spec PyProof.Rows L2 Z
def lw1 : M Fl := (sAsF 1 (eCd B__law_pen [] (aCons (eV 0) aNil)))
def lw2 : M Fl := (sAs 2 (eCo B__law_parts 1 (aCons (eK (.int 7)) aNil)))
def lw3 : M Fl := (sAs 3 (eCd B__law_tour [] (aCons (eV 2) aNil)))
def lw4 : M Fl := (sIf (tOn (tNo (tV (eCd B__law_sums_right [] (aCons (eV 2) (aCons (eV 3) aNil))))) (tNo (tV (eCo B__law_kin_right 1 (aCons (eV 2) (aCons (eV 3) aNil)))))) (sRet (eK (.bl false))) sNil)
def lw5 : M Fl := (sRet (eAnd (eCo B__law_ages_right 1 (aCons (eV 2) (aCons (eV 3) aNil))) (eCo B__law_news_right 1 (aCons (eV 2) (aCons (eV 3) aNil)))))
theorem lws : b_law = (sSeq lw1 (sSeq lw2 (sSeq lw3 (sSeq lw4 lw5)))) := rfl
theorem forGo_nc {g : Tg} {b : M Fl} {d : D} {l : List D} {r r1 r2 : Ev} {c : Fl} (hc : c = .nx ∨ c = .ct) (e1 : g d r = some r1) (e2 : b r1 = .ok c r2) : forGo g b (d :: l) r = forGo g b l r2 := by
  rcases hc with h | h <;> (subst h; simp [forGo, e1, e2])
theorem news_all {n : Nat} {d : D} {ps : List Part} (h : Pen n d) (hn : n ≤ 2 ^ 8) (ho : ∀ q ∈ ps, POk 9000 q) (h1 : 1 ≤ ps.length) (h7 : ps.length ≤ 7) : ∃ d', B__law_news_right [d, .lst (ps.map pD), tour (ps.map pr)] = .ok (.bl true) [some d', none, none] ∧ Pen (n + 28) d' := by
  have el := law_lights_ok ho (by omega)
  have la : pIx (.lst ((flig ps).map f3D)) (.int (-1)) = some (f3D (fl ps)) := by
    rw [flig_last, List.map_append]
    exact ix_last_l _ _
  obtain ⟨c1, d1, a5, a6, a7, a8, a9, a10, a11, a12, a13, k1, e1, p1⟩ := lapN_ok h (by omega) ho h1 h7 (some (.int 0)) none none none none none none none none none
  obtain ⟨c2, d2, b5, b6, b7, b8, b9, b10, b11, b12, b13, k2, e2, p2⟩ := lapN_ok p1 (by omega) ho h1 h7 (some (.int 1)) a5 a6 a7 a8 a9 a10 a11 a12 a13
  obtain ⟨c3, d3, u5, u6, u7, u8, u9, u10, u11, u12, u13, k3, e3, p3⟩ := lapN_ok p2 (by omega) ho h1 h7 (some (.int 2)) b5 b6 b7 b8 b9 b10 b11 b12 b13
  obtain ⟨c4, d4, v5, v6, v7, v8, v9, v10, v11, v12, v13, k4, e4, p4⟩ := lapN_ok p3 (by omega) ho h1 h7 (some (.int 3)) u5 u6 u7 u8 u9 u10 u11 u12 u13
  have er : rng 0 4 = [.int 0, .int 1, .int 2, .int 3] := by simp [rng, List.range_succ]
  have t1 : nr1 [some d, some (.lst (ps.map pD)), some (tour (ps.map pr)), none, none, none, none, none, none, none, none, none, none, none, none, none] = .ok .nx [some d, some (.lst (ps.map pD)), some (tour (ps.map pr)), some (f3D (fl ps)), none, none, none, none, none, none, none, none, none, none, none, none] := by
    simp [nr1, el, la]
  have f : forGo (gN 4) nbl [.int 0, .int 1, .int 2, .int 3] [some d, some (.lst (ps.map pD)), some (tour (ps.map pr)), some (f3D (fl ps)), none, none, none, none, none, none, none, none, none, none, none, none] = .ok .nx [some d4, some (.lst (ps.map pD)), some (tour (ps.map pr)), some (f3D (fl ps)), some (.int 3), v5, v6, v7, v8, v9, v10, v11, v12, v13, none, none] := by
    rw [forGo_nc k1 rfl e1, forGo_nc k2 rfl e2, forGo_nc k3 rfl e3, forGo_nc k4 rfl e4, forGo]
  have t2 : nr2 [some d, some (.lst (ps.map pD)), some (tour (ps.map pr)), some (f3D (fl ps)), none, none, none, none, none, none, none, none, none, none, none, none] = .ok .nx [some d4, some (.lst (ps.map pD)), some (tour (ps.map pr)), some (f3D (fl ps)), some (.int 3), v5, v6, v7, v8, v9, v10, v11, v12, v13, none, none] := by
    rw [nr2_eq]
    simp [pRng, er, f]
  have t3 : nr3 [some d4, some (.lst (ps.map pD)), some (tour (ps.map pr)), some (f3D (fl ps)), some (.int 3), v5, v6, v7, v8, v9, v10, v11, v12, v13, none, none] = .ok (.rt (.bl true)) [some d4, some (.lst (ps.map pD)), some (tour (ps.map pr)), some (f3D (fl ps)), some (.int 3), v5, v6, v7, v8, v9, v10, v11, v12, v13, none, none] := by simp [nr3]
  have run := sSeq_nx (g := sSeq nr2 nr3) t1
  rw [sSeq_nx t2, t3] at run
  have z : mkB 3 16 [0] (sSeq nr1 (sSeq nr2 nr3)) [d, .lst (ps.map pD), tour (ps.map pr)] = _ := mkB_run (n := 3) (m := 16) (io := [0]) (r0 := [some d, some (.lst (ps.map pD)), some (tour (ps.map pr)), none, none, none, none, none, none, none, none, none, none, none, none, none]) rfl rfl run
  rw [keepE3'] at z
  refine ⟨d4, ?_, p4⟩
  rw [B__law_news_right, nrs]
  exact z
theorem pen_go (x : Option D) : ∀ (ns : List Int) (y : Option D), ∃ y', lcGo [1] (gN 1) tY (eN pInt (aCons (eV 1) aNil)) (ns.map .int) [x, y] = some (ns.map .int, [x, y'])
  | [], y => ⟨y, rfl⟩
  | i :: ns, y => by
    obtain ⟨y', e⟩ := pen_go x ns (some (.int i))
    refine ⟨y', ?_⟩
    simp [lcGo, wipeE, pInt, e]
theorem pen_ok (ns : List Int) (hl : ns.length ≤ 63) : ∃ d, B__law_pen [.kl (ns.map .int)] = .ok d [none] ∧ Pen 0 d := by
  obtain ⟨L, eL, lL⟩ : ∃ L : List Int, Z.cutD (ns.map .int) none (some 62) = L.map .int ∧ L.length ≤ 63 := by
    refine ⟨_, by rw [Z.cutD, ← List.map_drop, ← List.map_take], ?_⟩
    simp
    omega
  obtain ⟨y', e⟩ := pen_go (some (.kl (ns.map .int))) L none
  refine ⟨.lst [.lst (L.map .int), .int 0, .int 0], ?_, L, 0, 0, rfl, by omega, by omega⟩
  have hb : L.length ≤ big := by unfold big; omega
  simp [B__law_pen, mkF, b__law_pen, pSl, eL, itemsOf, hb, e, lcOut, backE, show 3 ≤ big from by unfold big; omega]
theorem lw1_ok {S d : D} (e : B__law_pen [S] = .ok d [none]) : lw1 [some S, none, none, none] = .ok .nx [some S, some d, none, none] := by
  simp [lw1, e]
theorem lw2_ok {S d d1 P : D} (e : B__law_parts [d, .int 7] = .ok P [some d1, none]) : lw2 [some S, some d, none, none] = .ok .nx [some S, some d1, some P, none] := by
  simp [lw2, e]
theorem lw3_ok {S d P T : D} (e : B__law_tour [P] = .ok T [none]) : lw3 [some S, some d, some P, none] = .ok .nx [some S, some d, some P, some T] := by
  simp [lw3, e]
theorem lw4_ok {S d d1 P T : D} (e1 : B__law_sums_right [P, T] = .ok (.bl true) [none, none]) (e2 : B__law_kin_right [d, P, T] = .ok (.bl true) [some d1, none, none]) : lw4 [some S, some d, some P, some T] = .ok .nx [some S, some d1, some P, some T] := by
  simp [lw4, e1, e2]
theorem lw5_ok {S d d1 d2 P T : D} (e1 : B__law_ages_right [d, P, T] = .ok (.bl true) [some d1, none, none]) (e2 : B__law_news_right [d1, P, T] = .ok (.bl true) [some d2, none, none]) : lw5 [some S, some d, some P, some T] = .ok (.rt (.bl true)) [some S, some d2, some P, some T] := by
  simp [lw5, e1, e2]
theorem law_true (ns : List Int) (hl : ns.length ≤ 63) : B_law [.kl (ns.map .int)] = .ok (.bl true) [none] := by
  obtain ⟨d, e, p⟩ := pen_ok ns hl
  obtain ⟨ps, d1, e1, l1, l7, o, p1⟩ := parts_ok (m := 7) p (by omega) (by decide) (by decide)
  have l7' : ps.length ≤ 7 := l7
  have hO : ∀ q ∈ ps, POk 9000 q := fun q m => (o q m).up
  have e2 := law_tour_ok hO l1 (by omega)
  have e3 := sums_ok hO l1 (by omega)
  obtain ⟨d2, e4, p2⟩ := kin_ok p1 (by omega) o l1 l7'
  obtain ⟨d3, e5, p3⟩ := ages_ok p2 (by omega) hO l1 l7'
  obtain ⟨d4, e6, p4⟩ := news_all p3 (by omega) hO l1 l7'
  have run := sSeq_nx (g := sSeq lw2 (sSeq lw3 (sSeq lw4 lw5))) (lw1_ok e)
  rw [sSeq_nx (lw2_ok e1), sSeq_nx (lw3_ok e2), sSeq_nx (lw4_ok e3 e4), lw5_ok e5 e6] at run
  have z : mkB 1 4 [] (sSeq lw1 (sSeq lw2 (sSeq lw3 (sSeq lw4 lw5)))) [.kl (ns.map .int)] = _ := mkB_run (n := 1) (m := 4) (io := []) (r0 := [some (.kl (ns.map .int)), none, none, none]) rfl rfl run
  rw [keepE1] at z
  rw [B_law, lws]
  exact z
end Kw

open PySem PySem.W PySem.Calls PyProof.Rows
theorem PySem.Challenge.cw_whosefirst_k92_ages_of_tours_holds : PySem.Challenge.rw_whosefirst_k92_ages_of_tours.Holds := by
  w_on; o_law
  refine HandSHeadRun.head_imp (r := OpenLaw.row PySem.Challenge.rw_whosefirst_k92_ages_of_tours) (q := view (OpenLaw.row PySem.Challenge.rw_whosefirst_k92_ages_of_tours).prog [0, 65]) (H := Kw.hk) (ob := Kw.ob) (M := 16000) (loose := Kw.loose) (d := HandSHeadRun.topDef (OpenLaw.row PySem.Challenge.rw_whosefirst_k92_ages_of_tours).prog 65) (kwd := []) Kw.ob_eq
    Kw.run (by kernel_rfl) (by kernel_rfl) (by kernel_rfl) (by rfl) (by first | assumption | decide +kernel) (by decide +kernel) ⟨rfl, rfl, rfl, rfl, rfl, by decide +kernel⟩ ?hw ?hc
  case hw => w_witness2
  case hc =>
    refine Z.walk_ofZ (l := PySem.Challenge.rw_whosefirst_k92_ages_of_tours) (n := 63) (k := 16) (x := ("_law_script" : PySem.Str)) rfl (by decide) (by kernel_rfl) ⟨rfl, by decide, by decide⟩ ?F
    intro w mg fa h Y G hmg0
    obtain ⟨K, KX, c⟩ := Y
    have hmg : mg ("law" : PySem.Str) = some (.ref fa) := by
      have e : (HandSHeadRun.topDef (OpenLaw.row PySem.Challenge.rw_whosefirst_k92_ages_of_tours).prog 65).name = ("law" : PySem.Str) := by kernel_rfl
      rw [← e]
      exact hmg0
    obtain ⟨fd, hb, hF⟩ := Kw.facts (P := (PySem.Challenge.rw_whosefirst_k92_ages_of_tours).prog) (w := w) KX G hmg c
    refine ⟨K, fd, Z.spB (Kw.gm K) 1 [] Kw.B_law, KX, hb, fun H a ns hl hO hS => ?_, hF⟩
    exact Z.end_of hO hS (Kw.law_true ns hl)
