import PyProof.Rows.All
import Wide.All
import OpenK.AllK
import Wide.FinOn
import HandS.ForSpec
import HandS.ForMost
import HandS.HeadEnd
import HandS.HeadHook2
import HandS.IsInst
import HandS.Walk
import HandS.ExcOwn
import KE.KUnpackStar
import HandS.Defaults
import HandS.Iter
import KE.GoesNew
import KE.GoesMore
import KE.GoesEnum
import KE.GoesZip
import HandS.Property
import HandS.CallSlots
import HandS.Comp
import HandS.Star
import HandS.NoneIn
import HandS.DictComp
import HandS.MakeKwOnly
import HandS.MakeKw
import HandS.OwnEq
import HandS.Text
import KE.KStateDown
import HandS.Head0
import HandS.Head1
import HandS.Head2
import HandS.HeadHook1
import PySem.Challenge.RW_ghostgap_k36_asks_that_meet
set_option Elab.async false
set_option linter.all false
set_option maxRecDepth 100000
set_option maxHeartbeats 4000000
/-! FL: a functional layer over HandS. A def of the text is shown to compute a Lean function on data (trees of None, bools, ints, texts, tuples, lists, dicts, instances) and on a store of cells (what is changed in place).
 Every construct has a rule "this piece of syntax computes that function" (FE, FT, FA, FS ..); heaps are met in these rules alone. -/
namespace FL
open PySem PySem.Spec PyProof.Rows L2

/-! ### data, cells, results -/
inductive D where
  | non | bl (b : Bool) | int (i : Int) | str (s : Str)
  | tup (xs : List D) | lst (xs : List D) | scr (ns : List Int)
  | dct (kvs : List (Key × D))
  | ins (c : Str) (fs : List (Str × D))
  | ref (n : Nat)
deriving Inhabited
inductive Cell where
  | dead | lst (xs : List D) | dct (kvs : List (Key × D)) | ins (c : Str) (fs : List (Str × D))
abbrev G := List Cell
structure Exn where
  c : Str
  fs : List (Str × D)
inductive Res (α : Type) where
  | ok (a : α) (g : G) | exc (x : Exn) (g : G) | stuck
def Res.bind {α β : Type} (r : Res α) (k : α → G → Res β) : Res β := match r with
  | .ok a g => k a g
  | .exc x g => .exc x g
  | .stuck => .stuck
@[simp] theorem Res.bind_ok {α β : Type} (a : α) (g : G) (k : α → G → Res β) : (Res.ok a g).bind k = k a g := rfl
@[simp] theorem Res.bind_exc {α β : Type} (x : Exn) (g : G) (k : α → G → Res β) : (Res.exc x g : Res α).bind k = .exc x g := rfl
@[simp] theorem Res.bind_stuck {α β : Type} (k : α → G → Res β) : (Res.stuck : Res α).bind k = .stuck := rfl
/-- a slot: unknown, a value, a list or dict of the def's own that may be changed in place -/
inductive Sl where
  | un | val (d : D) | lst (xs : List D) | dct (kvs : List (Key × D))
abbrev Env := List Sl
inductive SRes where
  | next (e : Env) (g : G) | ret (d : D) (g : G) | brk (e : Env) (g : G) | cnt (e : Env) (g : G) | exc (x : Exn) (e : Env) (g : G) | stuck

/-! ### what stands for what -/
section
variable (K : PySem.W.Frag) (cls : Str → Addr) (m : List Addr) (F : Hp)
mutual
inductive Rep : V → D → Prop
  | non : Rep .non .non
  | bl (b : Bool) : Rep (.bl b) (.bl b)
  | int (i : Int) : Rep (.int i) (.int i)
  | str (x : Str) : Rep (.str x) (.str x)
  | tup {a : Addr} {xs : List V} {ds : List D} : SqT K F a xs → RepL xs ds → Rep (.ref a) (.tup ds)
  | lst {a : Addr} {xs : List V} {ds : List D} : F a = some (.lst xs) → RepL xs ds → Rep (.ref a) (.lst ds)
  | scr {a : Addr} {ns : List Int} : SqL K F a (ns.map V.int) → Rep (.ref a) (.scr ns)
  | dct {a : Addr} {xs : List (Key × V)} {ds : List (Key × D)} : F a = some (.dK xs) → RepK xs ds → Rep (.ref a) (.dct ds)
  | ins {a dx : Addr} {c : Str} {xs : List (Str × V)} {ds : List (Str × D)} : F a = some (.ins (cls c) dx xs) → RepF xs ds → Rep (.ref a) (.ins c ds)
  | ref {a : Addr} {n : Nat} : m[n]? = some a → Rep (.ref a) (.ref n)
inductive RepL : List V → List D → Prop
  | nil : RepL [] []
  | cons {v : V} {d : D} {vs : List V} {ds : List D} : Rep v d → RepL vs ds → RepL (v :: vs) (d :: ds)
inductive RepK : List (Key × V) → List (Key × D) → Prop
  | nil : RepK [] []
  | cons {k : Key} {v : V} {d : D} {vs : List (Key × V)} {ds : List (Key × D)} : Rep v d → RepK vs ds → RepK ((k, v) :: vs) ((k, d) :: ds)
inductive RepF : List (Str × V) → List (Str × D) → Prop
  | nil : RepF [] []
  | cons {k : Str} {v : V} {d : D} {vs : List (Str × V)} {ds : List (Str × D)} : Rep v d → RepF vs ds → RepF ((k, v) :: vs) ((k, d) :: ds)
end
end

/-- growth: more cells' addresses, more that is frozen -/
structure Grow (m : List Addr) (F : Hp) (m' : List Addr) (F' : Hp) : Prop where
  m : ∀ (n : Nat) (a : Addr), m[n]? = some a → m'[n]? = some a
  F : ∀ (a : Addr) (o : HO), F a = some o → F' a = some o
theorem Grow.refl (m : List Addr) (F : Hp) : Grow m F m F := ⟨fun _ _ h => h, fun _ _ h => h⟩
theorem Grow.trans {m m1 m2 : List Addr} {F F1 F2 : Hp} (a : Grow m F m1 F1) (b : Grow m1 F1 m2 F2) : Grow m F m2 F2 := ⟨fun n x h => b.m n x (a.m n x h), fun x o h => b.F x o (a.F x o h)⟩
theorem rd_mono {F F' : Hp} (h : ∀ a o, F a = some o → F' a = some o) {a : Addr} {u : HO} (r : Rd F a u) : Rd F' a u := by
  rcases r with r | ⟨o, r⟩
  · exact .inl (h _ _ r)
  · exact .inr ⟨o, h _ _ r⟩
theorem sqL_mono {K : PySem.W.Frag} {F F' : Hp} (h : ∀ a o, F a = some o → F' a = some o) {a : Addr} {xs : List V} (r : SqL K F a xs) : SqL K F' a xs := r.elim (fun r => .inl (rd_mono h r)) .inr
theorem sqT_mono {K : PySem.W.Frag} {F F' : Hp} (h : ∀ a o, F a = some o → F' a = some o) {a : Addr} {xs : List V} (r : SqT K F a xs) : SqT K F' a xs := r.elim (fun r => .inl (rd_mono h r)) .inr

section
variable {K : PySem.W.Frag} {cls : Str → Addr} {m m' : List Addr} {F F' : Hp}
mutual
theorem Rep.mono (g : Grow m F m' F') : ∀ (d : D) (v : V), Rep K cls m F v d → Rep K cls m' F' v d
  | .non, _, h => by cases h; exact .non
  | .bl _, _, h => by cases h; exact .bl _
  | .int _, _, h => by cases h; exact .int _
  | .str _, _, h => by cases h; exact .str _
  | .tup ds, _, h => by
    cases h with
    | tup a b => exact .tup (sqT_mono g.F a) (RepL.mono g ds _ b)
  | .lst ds, _, h => by
    cases h with
    | lst a b => exact .lst (g.F _ _ a) (RepL.mono g ds _ b)
  | .scr ns, _, h => by
    cases h with
    | scr a => exact .scr (sqL_mono g.F a)
  | .dct ds, _, h => by
    cases h with
    | dct a b => exact .dct (g.F _ _ a) (RepK.mono g ds _ b)
  | .ins c ds, _, h => by
    cases h with
    | ins a b => exact .ins (g.F _ _ a) (RepF.mono g ds _ b)
  | .ref n, _, h => by
    cases h with
    | ref a => exact .ref (g.m _ _ a)
theorem RepL.mono (g : Grow m F m' F') : ∀ (ds : List D) (vs : List V), RepL K cls m F vs ds → RepL K cls m' F' vs ds
  | [], _, h => by cases h; exact .nil
  | d :: ds, _, h => by
    cases h with
    | cons a b => exact .cons (Rep.mono g d _ a) (RepL.mono g ds _ b)
theorem RepK.mono (g : Grow m F m' F') : ∀ (ds : List (Key × D)) (vs : List (Key × V)), RepK K cls m F vs ds → RepK K cls m' F' vs ds
  | [], _, h => by cases h; exact .nil
  | (k, d) :: ds, _, h => by
    cases h with
    | cons a b => exact .cons (Rep.mono g d _ a) (RepK.mono g ds _ b)
theorem RepF.mono (g : Grow m F m' F') : ∀ (ds : List (Str × D)) (vs : List (Str × V)), RepF K cls m F vs ds → RepF K cls m' F' vs ds
  | [], _, h => by cases h; exact .nil
  | (k, d) :: ds, _, h => by
    cases h with
    | cons a b => exact .cons (Rep.mono g d _ a) (RepF.mono g ds _ b)
end
end

theorem RepL.length {K : PySem.W.Frag} {cls : Str → Addr} {m : List Addr} {F : Hp} : ∀ {vs : List V} {ds : List D}, RepL K cls m F vs ds → vs.length = ds.length
  | _, [], h => by cases h; rfl
  | _, d :: ds, h => by
    cases h with
    | cons a b => rw [List.length_cons, List.length_cons, RepL.length b]
theorem RepL.get {K : PySem.W.Frag} {cls : Str → Addr} {m : List Addr} {F : Hp} : ∀ {vs : List V} {ds : List D} {i : Nat} {d : D}, RepL K cls m F vs ds → ds[i]? = some d → ∃ v, vs[i]? = some v ∧ Rep K cls m F v d
  | _, [], _, _, _, e => by simp at e
  | _, d :: ds, 0, x, h, e => by
    cases h with
    | cons a b =>
      have e2 : d = x := by simpa using e
      subst e2
      exact ⟨_, rfl, a⟩
  | _, d :: ds, i + 1, x, h, e => by
    cases h with
    | cons a b =>
      obtain ⟨v, h1, h2⟩ := RepL.get (i := i) (d := x) b (by simpa using e)
      exact ⟨v, by simpa using h1, h2⟩
theorem RepL.append {K : PySem.W.Frag} {cls : Str → Addr} {m : List Addr} {F : Hp} : ∀ {vs ws : List V} {ds es : List D}, RepL K cls m F vs ds → RepL K cls m F ws es → RepL K cls m F (vs ++ ws) (ds ++ es)
  | _, _, [], _, h, q => by cases h; exact q
  | _, _, d :: ds, _, h, q => by
    cases h with
    | cons a b => exact .cons a (RepL.append b q)
theorem RepL.take {K : PySem.W.Frag} {cls : Str → Addr} {m : List Addr} {F : Hp} : ∀ (n : Nat) {vs : List V} {ds : List D}, RepL K cls m F vs ds → RepL K cls m F (vs.take n) (ds.take n)
  | 0, _, _, _ => by simpa using RepL.nil
  | n + 1, _, [], h => by cases h; exact .nil
  | n + 1, _, d :: ds, h => by
    cases h with
    | cons a b => exact .cons a (RepL.take n b)
theorem RepL.drop {K : PySem.W.Frag} {cls : Str → Addr} {m : List Addr} {F : Hp} : ∀ (n : Nat) {vs : List V} {ds : List D}, RepL K cls m F vs ds → RepL K cls m F (vs.drop n) (ds.drop n)
  | 0, _, _, h => h
  | n + 1, _, [], h => by cases h; exact .nil
  | n + 1, _, d :: ds, h => by
    cases h with
    | cons a b => exact RepL.drop n b
theorem RepL.set {K : PySem.W.Frag} {cls : Str → Addr} {m : List Addr} {F : Hp} {v : V} {d : D} (r : Rep K cls m F v d) : ∀ (i : Nat) {vs : List V} {ds : List D}, RepL K cls m F vs ds → RepL K cls m F (vs.set i v) (ds.set i d)
  | _, _, [], h => by cases h; exact .nil
  | 0, _, _ :: _, h => by
    cases h with
    | cons a b => exact .cons r b
  | i + 1, _, _ :: _, h => by
    cases h with
    | cons a b => exact .cons a (RepL.set r i b)

/-! ### the store -/
def LiveAt (m : List Addr) (g : G) (a : Addr) : Prop := ∃ (n : Nat) (c : Cell), g[n]? = some c ∧ c ≠ Cell.dead ∧ m[n]? = some a
section
variable (K : PySem.W.Frag) (cls : Str → Addr)
def CellR (m : List Addr) (F H : Hp) (a : Addr) : Cell → Prop
  | .dead => True
  | .lst ds => ∃ xs, H a = some (.lst xs) ∧ RepL K cls m F xs ds
  | .dct ds => ∃ xs, H a = some (.dK xs) ∧ RepK K cls m F xs ds
  | .ins c ds => ∃ dx xs, H a = some (.ins (cls c) dx xs) ∧ RepF K cls m F xs ds
structure World (m : List Addr) (F : Hp) (g : G) (H : Hp) : Prop where
  len : m.length = g.length
  at_ : ∀ (n : Nat) (c : Cell) (a : Addr), g[n]? = some c → m[n]? = some a → CellR K cls m F H a c
  nf : ∀ (n : Nat) (c : Cell) (a : Addr), g[n]? = some c → c ≠ .dead → m[n]? = some a → F a = none
  inj : ∀ (n n' : Nat) (c c' : Cell) (a : Addr), g[n]? = some c → c ≠ .dead → g[n']? = some c' → c' ≠ .dead → m[n]? = some a → m[n']? = some a → n = n'
  fe : ∀ (a : Addr) (o : HO), F a = some o → H a = some o
end
/-- where a def began -/
structure Base where
  m : List Addr
  F : Hp
  g : G
  H : Hp
/-- from there to here -/
structure Step (B : Base) (m : List Addr) (F : Hp) (g : G) (H : Hp) : Prop where
  grow : Grow B.m B.F m F
  fr : ∀ (a : Addr) (o : HO), B.H a = some o → ¬ LiveAt B.m B.g a → H a = some o
  nF : ∀ (a : Addr), F a ≠ none → B.F a = none → B.H a = none ∨ LiveAt B.m B.g a
  nL : ∀ (a : Addr), LiveAt m g a → LiveAt B.m B.g a ∨ B.H a = none
  tr : ∀ (a : Addr), H a = none → B.H a = none
theorem Step.refl (m : List Addr) (F : Hp) (g : G) (H : Hp) : Step ⟨m, F, g, H⟩ m F g H := ⟨Grow.refl _ _, fun _ _ h _ => h, fun _ h q => absurd q h, fun _ h => .inl h, fun _ h => h⟩
theorem Step.back {B : Base} {m : List Addr} {F : Hp} {g : G} {H : Hp} (s : Step B m F g H) {a : Addr} (h : H a = none) : B.H a = none ∨ LiveAt B.m B.g a := by
  cases e : B.H a with
  | none => exact .inl rfl
  | some o =>
    by_cases l : LiveAt B.m B.g a
    · exact .inr l
    · rw [s.fr a o e l] at h
      cases h
theorem Step.trans {B : Base} {m m' : List Addr} {F F' : Hp} {g g' : G} {H H' : Hp} (s : Step B m F g H) (t : Step ⟨m, F, g, H⟩ m' F' g' H') : Step B m' F' g' H' := by
  refine ⟨s.grow.trans t.grow, fun a o e l => ?_, fun a h q => ?_, fun a l => ?_, fun a h => s.tr a (t.tr a h)⟩
  · have e1 := s.fr a o e l
    refine t.fr a o e1 fun l1 => ?_
    rcases s.nL a l1 with z | z
    · exact l z
    · rw [e] at z
      cases z
  · cases e : F a with
    | none =>
      rcases t.nF a h e with z | z
      · exact s.back z
      · exact (s.nL a z).symm
    | some o => exact s.nF a (by rw [e]; exact fun z => by cases z) q
  · rcases t.nL a l with z | z
    · exact s.nL a z
    · exact (s.back z).symm

/-! the slots -/
section
variable (K : PySem.W.Frag) (cls : Str → Addr)
def SlotR (m : List Addr) (F H : Hp) (σ : L2.St) (i : Nat) (os : Nat → Option Addr) : Sl → Prop
  | .un => os i = none
  | .val d => os i = none ∧ ∃ v, σ[i]? = some (some v) ∧ Rep K cls m F v d
  | .lst ds => ∃ l xs, os i = some l ∧ σ[i]? = some (some (.ref l)) ∧ H l = some (.lst xs) ∧ RepL K cls m F xs ds
  | .dct ds => ∃ l xs, os i = some l ∧ σ[i]? = some (some (.ref l)) ∧ H l = some (.dK xs) ∧ RepK K cls m F xs ds
structure Rl (m : List Addr) (F : Hp) (g : G) (H : Hp) (env : Env) (os : Nat → Option Addr) (σ : L2.St) : Prop where
  w : World K cls m F g H
  sl : ∀ (i : Nat) (s : Sl), env[i]? = some s → SlotR K cls m F H σ i os s
  len : σ.length = env.length
  own : ∀ (i : Nat) (l : Addr), os i = some l → F l = none ∧ ¬ LiveAt m g l ∧ H l ≠ none ∧ i < env.length
  inj : ∀ (i j : Nat) (l : Addr), os i = some l → os j = some l → i = j
/-- within a def that began at B -/
structure RlB (B : Base) (m : List Addr) (F : Hp) (g : G) (H : Hp) (env : Env) (os : Nat → Option Addr) (σ : L2.St) : Prop where
  r : Rl K cls m F g H env os σ
  st : Step B m F g H
  own : ∀ (i : Nat) (l : Addr), os i = some l → B.H l = none
end
section
variable {K : PySem.W.Frag} {cls : Str → Addr} {B : Base} {m m' : List Addr} {F F' : Hp} {g g' : G} {H H' : Hp} {env : Env} {os : Nat → Option Addr} {σ : L2.St}
/-- the frame: behind something that kept all but the live cells -/
theorem Rl.step (r : Rl K cls m F g H env os σ) (t : Step ⟨m, F, g, H⟩ m' F' g' H') (w : World K cls m' F' g' H') : Rl K cls m' F' g' H' env os σ := by
  have hk : ∀ i l, os i = some l → H' l = H l ∧ F' l = none ∧ ¬ LiveAt m' g' l := fun i l e => by
    obtain ⟨h1, h2, h4, h5⟩ := r.own i l e
    cases q : H l with
    | none => exact absurd q h4
    | some o =>
      refine ⟨t.fr l o q h2, ?_, fun z => ?_⟩
      · cases z : F' l with
        | none => rfl
        | some u =>
          rcases t.nF l (by rw [z]; exact fun y => by cases y) h1 with y | y
          · exact absurd (show H l = none from y) h4
          · exact absurd y h2
      · rcases t.nL l z with y | y
        · exact h2 y
        · exact absurd (show H l = none from y) h4
  refine ⟨w, fun i s e => ?_, r.len, fun i l e => ?_, r.inj⟩
  · have h := r.sl i s e
    cases s with
    | un => exact h
    | val d =>
      obtain ⟨o, v, h1, h2⟩ := h
      exact ⟨o, v, h1, Rep.mono t.grow _ _ h2⟩
    | lst ds =>
      obtain ⟨l, xs, h1, h2, h3, h4⟩ := h
      exact ⟨l, xs, h1, h2, (hk i l h1).1.trans h3, RepL.mono t.grow _ _ h4⟩
    | dct ds =>
      obtain ⟨l, xs, h1, h2, h3, h4⟩ := h
      exact ⟨l, xs, h1, h2, (hk i l h1).1.trans h3, RepK.mono t.grow _ _ h4⟩
  · obtain ⟨h1, h2, h4, h5⟩ := r.own i l e
    obtain ⟨k1, k2, k3⟩ := hk i l e
    exact ⟨k2, k3, by rw [k1]; exact h4, h5⟩
theorem RlB.step (r : RlB K cls B m F g H env os σ) (t : Step ⟨m, F, g, H⟩ m' F' g' H') (w : World K cls m' F' g' H') : RlB K cls B m' F' g' H' env os σ :=
  ⟨r.r.step t w, r.st.trans t, r.own⟩
theorem LiveAt.tracked (w : World K cls m F g H) {a : Addr} (l : LiveAt m g a) : H a ≠ none := by
  obtain ⟨n, c, h1, h2, h3⟩ := l
  have h := w.at_ n c a h1 h3
  cases c with
  | dead => exact absurd rfl h2
  | lst ds => obtain ⟨xs, e, _⟩ := h; rw [e]; exact fun z => by cases z
  | dct ds => obtain ⟨xs, e, _⟩ := h; rw [e]; exact fun z => by cases z
  | ins c ds => obtain ⟨dx, xs, e, _⟩ := h; rw [e]; exact fun z => by cases z
theorem CellR.mono (gr : Grow m F m' F') {a : Addr} {c : Cell} (e : H' a = H a) (h : CellR K cls m F H a c) : CellR K cls m' F' H' a c := by
  cases c with
  | dead => trivial
  | lst ds => obtain ⟨xs, q, r⟩ := h; exact ⟨xs, e.trans q, RepL.mono gr _ _ r⟩
  | dct ds => obtain ⟨xs, q, r⟩ := h; exact ⟨xs, e.trans q, RepK.mono gr _ _ r⟩
  | ins c ds => obtain ⟨dx, xs, q, r⟩ := h; exact ⟨dx, xs, e.trans q, RepF.mono gr _ _ r⟩
theorem up_none {H : Hp} {p a : Addr} {o : HO} (h : upd H p o a = none) : H a = none := by
  by_cases z : a = p
  · subst z
    rw [upd_same] at h
    cases h
  · rw [upd_ne z] at h
    exact h
theorem grow_new {p : Addr} {o : HO} (hF : F p = none) : Grow m F m (upd F p o) := ⟨fun _ _ h => h, fun a u e => by rw [upd_ne (ne_of_none e hF)]; exact e⟩
/-- a new frozen object -/
theorem World.new (w : World K cls m F g H) {p : Addr} {o : HO} (hp : H p = none) : World K cls m (upd F p o) g (upd H p o) ∧ Step ⟨m, F, g, H⟩ m (upd F p o) g (upd H p o) := by
  have hF : F p = none := by
    cases e : F p with
    | none => rfl
    | some u =>
      rw [w.fe p u e] at hp
      cases hp
  have gr : Grow m F m (upd F p o) := grow_new hF
  have ne : ∀ a, LiveAt m g a → a ≠ p := fun a l z => l.tracked w (z ▸ hp)
  refine ⟨⟨w.len, fun n c a h1 h2 => ?_, fun n c a h1 h2 h3 => ?_, w.inj, fun a u e => ?_⟩, ⟨gr, fun a u e _ => ?_, fun a h q => ?_, fun a l => .inl l, fun a h => up_none h⟩⟩
  · by_cases hc : c = .dead
    · subst hc; trivial
    · exact CellR.mono gr (upd_ne (ne a ⟨n, c, h1, hc, h2⟩)) (w.at_ n c a h1 h2)
  · rw [upd_ne (ne a ⟨n, c, h1, h2, h3⟩)]
    exact w.nf n c a h1 h2 h3
  · by_cases z : a = p
    · subst z
      rw [upd_same] at e ⊢
      exact e
    · rw [upd_ne z] at e ⊢
      exact w.fe a u e
  · rw [upd_ne (ne_of_none e hp)]
    exact e
  · by_cases z : a = p
    · subst z
      exact .inl hp
    · rw [upd_ne z] at h
      exact absurd q h
theorem World.hF (w : World K cls m F g H) {p : Addr} (hp : H p = none) : F p = none := by
  cases e : F p with
  | none => rfl
  | some u =>
    rw [w.fe p u e] at hp
    cases hp
end

/-! ### results of expressions -/
section
variable (K : PySem.W.Frag) (cls : Str → Addr)
def ExnR (m : List Addr) (F : Hp) (cl : Value) (dx : Option Addr) (x : Exn) : Prop := cl = .ref (cls x.c) ∧ ∃ d xs, dx = some d ∧ F d = some (.xd xs) ∧ RepF K cls m F xs x.fs
/-- what is wanted of a result -/
def Sat {α β : Type} (W : WX) (σ : L2.St) (rep : List Addr → Hp → β → α → Prop) (S : Base) : Res α → (β → Hp → Prop) → Prop
  | .ok a g', Q => ∀ v m' F' H', Step S m' F' g' H' → World K cls m' F' g' H' → rep m' F' v a → Q v H'
  | .exc x g', _ => ∀ cl dx m' F' H', Step S m' F' g' H' → World K cls m' F' g' H' → ExnR K cls m' F' cl dx x → W cl dx σ H'
  | .stuck, _ => False
end
section
variable {K : PySem.W.Frag} {cls : Str → Addr} {W : WX} {σ : L2.St} {α β γ δ : Type} {rep : List Addr → Hp → β → α → Prop} {rep2 : List Addr → Hp → δ → γ → Prop} {S : Base}
theorem Sat.mono {r : Res α} {Q : β → Hp → Prop} {m' : List Addr} {F' : Hp} {g' : G} {H' : Hp} (h : Sat K cls W σ rep S r Q) (t : Step S m' F' g' H') : Sat K cls W σ rep ⟨m', F', g', H'⟩ r Q := by
  cases r with
  | ok a g => exact fun v m2 F2 H2 s w q => h v m2 F2 H2 (t.trans s) w q
  | exc x g => exact fun cl dx m2 F2 H2 s w q => h cl dx m2 F2 H2 (t.trans s) w q
  | stuck => exact h
theorem Sat.bind {r : Res α} {k : α → G → Res γ} {Q : δ → Hp → Prop} {Q1 : β → Hp → Prop} (h : Sat K cls W σ rep2 S (r.bind k) Q)
    (hq : ∀ a g' v m' F' H', Step S m' F' g' H' → World K cls m' F' g' H' → rep m' F' v a → Sat K cls W σ rep2 ⟨m', F', g', H'⟩ (k a g') Q → Q1 v H') : Sat K cls W σ rep S r Q1 := by
  cases r with
  | ok a g => exact fun v m' F' H' s w q => hq a g v m' F' H' s w q (Sat.mono (show Sat K cls W σ rep2 S (k a g) Q from h) s)
  | exc x g => exact h
  | stuck => exact h
end
end FL

namespace FL
open PySem PySem.Spec PyProof.Rows L2

/-! ### the judgements: a reading computes a function; a piece of syntax has that reading -/
section
variable (K : PySem.W.Frag) (cls : Str → Addr) (W : WX)
def SE (t : TE) (f : Env → G → Res D) : Prop := ∀ m F g H env os σ (Q : VK), Rl K cls m F g H env os σ → Sat K cls W σ (Rep K cls) ⟨m, F, g, H⟩ (f env g) Q → t σ H Q
def ST (t : TT) (f : Env → G → Res Bool) : Prop := ∀ m F g H env os σ (Q : Bool → Hp → Prop), Rl K cls m F g H env os σ → Sat K cls W σ (fun _ _ (b : Bool) (c : Bool) => b = c) ⟨m, F, g, H⟩ (f env g) Q → t σ H Q
def SA (t : TA) (f : Env → G → Res (List D)) : Prop := ∀ m F g H env os σ (Q : List V → Hp → Prop), Rl K cls m F g H env os σ → Sat K cls W σ (RepL K cls) ⟨m, F, g, H⟩ (f env g) Q → t σ H Q
end
section
variable (cls : Str → Addr) (X : Cx) (W : WX)
structure FE (e : Expr) (t : TE) (f : Env → G → Res D) : Prop where
  p : PE X e t
  s : SE X.K cls W t f
structure FT (e : Expr) (t : TT) (f : Env → G → Res Bool) : Prop where
  p : PT X e t
  s : ST X.K cls W t f
structure FW (e : Expr) (t : TT) (f : Env → G → Res Bool) : Prop where
  p : PW X e t
  s : ST X.K cls W t f
structure FA (es : List Expr) (t : TA) (f : Env → G → Res (List D)) : Prop where
  p : PA X es t
  s : SA X.K cls W t f
end

/-! ### functions -/
def fVar (i : Nat) : Env → G → Res D := fun env g => match env[i]? with
  | some (.val d) => .ok d g
  | _ => .stuck
def fC (d : D) : Env → G → Res D := fun _ g => .ok d g
def f1 (op : D → G → Res D) (fa : Env → G → Res D) : Env → G → Res D := fun env g => (fa env g).bind op
def f2 (op : D → D → G → Res D) (fa fb : Env → G → Res D) : Env → G → Res D := fun env g => (fa env g).bind fun a g1 => (fb env g1).bind (op a)
def fNilA : Env → G → Res (List D) := fun _ g => .ok [] g
def fConsA (fa : Env → G → Res D) (fr : Env → G → Res (List D)) : Env → G → Res (List D) := fun env g => (fa env g).bind fun a g1 => (fr env g1).bind fun r g2 => .ok (a :: r) g2
def fTup (fa : Env → G → Res (List D)) : Env → G → Res D := fun env g => (fa env g).bind fun ds g1 => if ds.length ≤ sizeLine then .ok (.tup ds) g1 else .stuck
def fLst (fa : Env → G → Res (List D)) : Env → G → Res D := fun env g => (fa env g).bind fun ds g1 => if ds.length ≤ sizeLine then .ok (.lst ds) g1 else .stuck
/-- a bool, else stuck -/
def asB (d : D) (g : G) : Res Bool := match d with
  | .bl b => .ok b g
  | _ => .stuck
def fTest (fa : Env → G → Res D) : Env → G → Res Bool := fun env g => (fa env g).bind asB
def fAndT (fa fb : Env → G → Res Bool) : Env → G → Res Bool := fun env g => (fa env g).bind fun a g1 => if a = true then fb env g1 else .ok false g1
def fOrT (fa fb : Env → G → Res Bool) : Env → G → Res Bool := fun env g => (fa env g).bind fun a g1 => if a = true then .ok true g1 else fb env g1
def fNotT (fa : Env → G → Res Bool) : Env → G → Res Bool := fun env g => (fa env g).bind fun a g1 => .ok (!a) g1
def fAndV (fa fb : Env → G → Res D) : Env → G → Res D := fun env g => (fa env g).bind fun a g1 => match a with
  | .bl true => fb env g1
  | .bl false => .ok (.bl false) g1
  | _ => .stuck
def fOrV (fa fb : Env → G → Res D) : Env → G → Res D := fun env g => (fa env g).bind fun a g1 => match a with
  | .bl true => .ok (.bl true) g1
  | .bl false => fb env g1
  | _ => .stuck
def fNotV (fa : Env → G → Res D) : Env → G → Res D := fun env g => (fa env g).bind fun a g1 => match a with
  | .bl b => .ok (.bl (!b)) g1
  | _ => .stuck
def fIf (fc : Env → G → Res Bool) (fa fb : Env → G → Res D) : Env → G → Res D := fun env g => (fc env g).bind fun c g1 => if c = true then fa env g1 else fb env g1
/-- a call of a function on data -/
def fCall (Fn : List D → G → Res D) (fa : Env → G → Res (List D)) : Env → G → Res D := fun env g => (fa env g).bind Fn

section
variable {K : PySem.W.Frag} {cls : Str → Addr} {W : WX} {ta tb tc te : TE} {fa fb fc fe : Env → G → Res D} {tA tB' : TA} {gA gB : Env → G → Res (List D)} {t u : TT} {p q : Env → G → Res Bool}
theorem world_refl {m : List Addr} {F : Hp} {g : G} {H : Hp} {env : Env} {os : Nat → Option Addr} {σ : L2.St} (r : Rl K cls m F g H env os σ) : World K cls m F g H := r.w
/-- the end of a rule: nothing changed -/
theorem Sat.here {α β : Type} {σ : L2.St} {rep : List Addr → Hp → β → α → Prop} {m : List Addr} {F : Hp} {g : G} {H : Hp} {a : α} {v : β} {Q : β → Hp → Prop} (h : Sat K cls W σ rep ⟨m, F, g, H⟩ (.ok a g) Q) (w : World K cls m F g H) (r : rep m F v a) : Q v H :=
  h v m F H (Step.refl _ _ _ _) w r
/-- a new frozen object -/
theorem Sat.new {σ : L2.St} {m : List Addr} {F : Hp} {g : G} {H : Hp} {d : D} {p : Addr} {o : HO} {Q : VK} (h : Sat K cls W σ (Rep K cls) ⟨m, F, g, H⟩ (.ok d g) Q) (w : World K cls m F g H) (hp : H p = none) (r : Rep K cls m (upd F p o) (.ref p) d) : Q (.ref p) (upd H p o) :=
  h _ m (upd F p o) (upd H p o) (w.new hp).2 (w.new hp).1 r
theorem se_var (i : Nat) : SE K cls W (tVar i) (fVar i) := fun m F g H env os σ Q r h => by
  unfold fVar at h
  split at h
  · rename_i d e
    obtain ⟨_, v, h1, h2⟩ := r.sl i _ e
    exact ⟨v, h1, h.here r.w h2⟩
  · exact h.elim
theorem se_c {v : V} {d : D} (hr : ∀ m F, Rep K cls m F v d) : SE K cls W (tC v) (fC d) := fun m F g H env os σ Q r h => h.here r.w (hr m F)
/-- an operation on two values -/
def OpS (K : PySem.W.Frag) (cls : Str → Addr) (W : WX) (r : R2) (op : D → D → G → Res D) : Prop := ∀ m F g H σ (Q : VK) x y a b, World K cls m F g H → Rep K cls m F x a → Rep K cls m F y b → Sat K cls W σ (Rep K cls) ⟨m, F, g, H⟩ (op a b g) Q → r x y H Q
def UnS (K : PySem.W.Frag) (cls : Str → Addr) (W : WX) (r : V → Hp → VK → Prop) (op : D → G → Res D) : Prop := ∀ m F g H σ (Q : VK) x a, World K cls m F g H → Rep K cls m F x a → Sat K cls W σ (Rep K cls) ⟨m, F, g, H⟩ (op a g) Q → r x H Q
def CallS (K : PySem.W.Frag) (cls : Str → Addr) (W : WX) (r : List V → Hp → VK → Prop) (op : List D → G → Res D) : Prop := ∀ m F g H σ (Q : VK) xs as, World K cls m F g H → RepL K cls m F xs as → Sat K cls W σ (Rep K cls) ⟨m, F, g, H⟩ (op as g) Q → r xs H Q
theorem se_op {r : R2} {op : D → D → G → Res D} (hr : OpS K cls W r op) (ha : SE K cls W ta fa) (hb : SE K cls W tb fb) : SE K cls W (tOp r ta tb) (f2 op fa fb) := fun m F g H env os σ Q rl h =>
  ha m F g H env os σ _ rl (h.bind fun a g1 x m1 F1 H1 s1 w1 r1 h1 => hb m1 F1 g1 H1 env os σ _ (rl.step s1 w1) (h1.bind fun b g2 y m2 F2 H2 s2 w2 r2 h2 => hr m2 F2 g2 H2 σ Q x y a b w2 (Rep.mono s2.grow _ _ r1) r2 h2))
theorem se_un {r : V → Hp → VK → Prop} {op : D → G → Res D} (hr : UnS K cls W r op) (ha : SE K cls W ta fa) : SE K cls W (tUn r ta) (f1 op fa) := fun m F g H env os σ Q rl h =>
  ha m F g H env os σ _ rl (h.bind fun a g1 x m1 F1 H1 s1 w1 r1 h1 => hr m1 F1 g1 H1 σ Q x a w1 r1 h1)
theorem sa_nil : SA K cls W tNil fNilA := fun m F g H env os σ Q rl h => h.here rl.w .nil
theorem sa_cons (ha : SE K cls W ta fa) (hr : SA K cls W tA gA) : SA K cls W (tCons ta tA) (fConsA fa gA) := fun m F g H env os σ Q rl h =>
  ha m F g H env os σ _ rl (h.bind fun a g1 x m1 F1 H1 s1 w1 r1 h1 => hr m1 F1 g1 H1 env os σ _ (rl.step s1 w1) (h1.bind fun b g2 y m2 F2 H2 s2 w2 r2 h2 => h2.here w2 (.cons (Rep.mono s2.grow _ _ r1) r2)))
theorem sqT_new {F : Hp} {p : Addr} {xs : List V} : SqT K (upd F p (.tup xs)) p xs := .inl (.inl upd_same)
theorem se_tup (ha : SA K cls W tA gA) : SE K cls W (tTup tA) (fTup gA) := fun m F g H env os σ Q rl h =>
  ha m F g H env os σ _ rl (h.bind fun ds g1 xs m1 F1 H1 s1 w1 r1 h1 => by
    split at h1
    · rename_i hl
      refine ⟨by rw [r1.length]; exact hl, fun p hp => h1.new w1 hp (.tup sqT_new (RepL.mono (grow_new (w1.hF hp)) _ _ r1))⟩
    · exact h1.elim)
theorem se_lst (ha : SA K cls W tA gA) : SE K cls W (tLst tA) (fLst gA) := fun m F g H env os σ Q rl h =>
  ha m F g H env os σ _ rl (h.bind fun ds g1 xs m1 F1 H1 s1 w1 r1 h1 => by
    split at h1
    · rename_i hl
      refine ⟨by rw [r1.length]; exact hl, fun p hp => h1.new w1 hp (.lst upd_same (RepL.mono (grow_new (w1.hF hp)) _ _ r1))⟩
    · exact h1.elim)
theorem se_call {r : List V → Hp → VK → Prop} {op : List D → G → Res D} (hr : CallS K cls W r op) (ha : SA K cls W tA gA) : SE K cls W (tCB r tA) (fCall op gA) := fun m F g H env os σ Q rl h =>
  ha m F g H env os σ _ rl (h.bind fun ds g1 xs m1 F1 H1 s1 w1 r1 h1 => hr m1 F1 g1 H1 σ Q xs ds w1 r1 h1)
theorem st_test (ha : SE K cls W ta fa) : ST K cls W (tTest ta) (fTest fa) := fun m F g H env os σ Q rl h =>
  ha m F g H env os σ _ rl (h.bind fun a g1 x m1 F1 H1 s1 w1 r1 h1 => by
    cases a with
    | bl b =>
      cases r1
      exact ⟨b, rfl, h1.here w1 rfl⟩
    | _ => exact h1.elim)
theorem st_B (ha : SE K cls W ta fa) : ST K cls W (L2.tB ta) (fTest fa) := st_test ha
theorem st_and (h1 : ST K cls W t p) (h2 : ST K cls W u q) : ST K cls W (tAnd t u) (fAndT p q) := fun m F g H env os σ Q rl h =>
  h1 m F g H env os σ _ rl (h.bind fun a g1 x m1 F1 H1 s1 w1 r1 h' => by
    cases r1
    split
    · rename_i e
      rw [if_pos e] at h'
      exact h2 m1 F1 g1 H1 env os σ Q (rl.step s1 w1) h'
    · rename_i e
      rw [if_neg e] at h'
      exact h'.here w1 rfl)
theorem st_or (h1 : ST K cls W t p) (h2 : ST K cls W u q) : ST K cls W (tOr t u) (fOrT p q) := fun m F g H env os σ Q rl h =>
  h1 m F g H env os σ _ rl (h.bind fun a g1 x m1 F1 H1 s1 w1 r1 h' => by
    cases r1
    split
    · rename_i e
      rw [if_pos e] at h'
      exact h'.here w1 rfl
    · rename_i e
      rw [if_neg e] at h'
      exact h2 m1 F1 g1 H1 env os σ Q (rl.step s1 w1) h')
theorem st_not (h1 : ST K cls W t p) : ST K cls W (tNot t) (fNotT p) := fun m F g H env os σ Q rl h =>
  h1 m F g H env os σ _ rl (h.bind fun a g1 x m1 F1 H1 s1 w1 r1 h' => by
    cases r1
    exact h'.here w1 rfl)
theorem se_andV (ha : SE K cls W ta fa) (hb : SE K cls W tb fb) : SE K cls W (tAndV ta tb) (fAndV fa fb) := fun m F g H env os σ Q rl h =>
  ha m F g H env os σ _ rl (h.bind fun a g1 x m1 F1 H1 s1 w1 r1 h' => by
    cases a with
    | bl b =>
      cases r1
      cases b with
      | true => exact ⟨true, rfl, hb m1 F1 g1 H1 env os σ Q (rl.step s1 w1) h'⟩
      | false => exact ⟨false, rfl, h'.here w1 (.bl _)⟩
    | _ => exact h'.elim)
theorem se_orV (ha : SE K cls W ta fa) (hb : SE K cls W tb fb) : SE K cls W (tOrV ta tb) (fOrV fa fb) := fun m F g H env os σ Q rl h =>
  ha m F g H env os σ _ rl (h.bind fun a g1 x m1 F1 H1 s1 w1 r1 h' => by
    cases a with
    | bl b =>
      cases r1
      cases b with
      | false => exact ⟨false, rfl, hb m1 F1 g1 H1 env os σ Q (rl.step s1 w1) h'⟩
      | true => exact ⟨true, rfl, h'.here w1 (.bl _)⟩
    | _ => exact h'.elim)
theorem se_notV (ha : SE K cls W ta fa) : SE K cls W (tNotV ta) (fNotV fa) := fun m F g H env os σ Q rl h =>
  ha m F g H env os σ _ rl (h.bind fun a g1 x m1 F1 H1 s1 w1 r1 h' => by
    cases a with
    | bl b =>
      cases r1
      exact ⟨b, rfl, h'.here w1 (.bl _)⟩
    | _ => exact h'.elim)
theorem se_if (hc : ST K cls W t p) (ha : SE K cls W ta fa) (hb : SE K cls W tb fb) : SE K cls W (tIf t ta tb) (fIf p fa fb) := fun m F g H env os σ Q rl h =>
  hc m F g H env os σ _ rl (h.bind fun a g1 x m1 F1 H1 s1 w1 r1 h' => by
    cases r1
    split
    · rename_i e
      rw [if_pos e] at h'
      exact ha m1 F1 g1 H1 env os σ Q (rl.step s1 w1) h'
    · rename_i e
      rw [if_neg e] at h'
      exact hb m1 F1 g1 H1 env os σ Q (rl.step s1 w1) h')
end
end FL

/-! rules of the machine that the hand layer lacks: () + t, the whole slice of a tuple, d[k] and k in d by values -/
namespace FR
open PySem PySem.Spec PyProof.Rows L2
theorem tuple_addW0 (l b : Addr) (items items2 : Array Value) (n n2 : Nat) (dd dd2 : Option Addr) (sl sl2 : Array (Option Value)) (hc0 : items.isEmpty = true) :
    Meets (Builtin.«tuple.__add__» ⟨[.ref l, .ref b], []⟩) (fun _ R s => s.heap.get? l = some { cls := .type "tuple", dict := dd, data := .seq items n, slots := sl } ∧ s.heap.get? b = some { cls := .type "tuple", dict := dd2, data := .seq items2 n2, slots := sl2 } ∧ R (.ok (.ret (Value.ref b))) { s with heap := s.heap, toks := s.toks }) :=
  .of_wp fun prog w A R s h => by obtain ⟨hp, g, d, tk, os⟩ := s; obtain ⟨hl, hb, h⟩ := h; have f1 := AutoSeq1.idx_int; have f2 := AutoSeq1.sub_tuple_tuple; have f3 := AutoSeq1.sub_list_list; have f4 := AutoSeq1.sub_tuple_list; have f5 := AutoSeq1.sub_list_tuple; wp_walk using wpAny_loadPart' hl, wpAny_loadPart' hb; exact ⟨_, rfl, h⟩
section
variable {prog : Program} {w : World} {A : Around} {E : Value → Shared → Prop} {s : Shared}
/-- () + t is t -/
theorem cat_tup0 {t b : Addr} {ws : List Value} {Q : Value → Shared → Prop} (ht : IsTup s.heap t ([] : List Value).toArray) (hb : IsTup s.heap b ws.toArray) (h1 : Q (.ref b) s) : wpAny (model prog w) A (binaryOp .Add (.ref t) (.ref b)) Q E s := by
  obtain ⟨⟨cls, dd, data, sl⟩, ho, hc, n, hd⟩ := id ht
  obtain ⟨⟨cls2, dd2, data2, sl2⟩, ho2, hc2, n2, hd2⟩ := id hb
  simp only at hc hd hc2 hd2
  subst hc hd hc2 hd2
  exact concat_meets ⟨_, ho, rfl⟩ ⟨_, ho2, rfl⟩ noFill_tuple_add seq_tuple_add PySem.F.slot_tuple_add PySem.F.entry_tuple_add (PySem.F.args_tuple_add_2 _ _)
      (tuple_addW0 t b ([] : List Value).toArray ws.toArray n n2 dd dd2 sl sl2 rfl) ⟨ho, ho2, h1⟩
open HT
/-- t[0:] is t -/
theorem getItem_tuple_whole {t sl : Addr} {items : Array Value} {vl vu : Value} {lo hi : Option Int} {Q : Value → Shared → Prop} (ht : IsTup s.heap t items) (hs : s.heap.IsSliceOf sl vl vu .none) (pl : IsPart vl lo) (pu : IsPart vu hi)
    (hw : sIx items.size 0 lo = 0 ∧ sIx items.size items.size hi = items.size)
    (h : Q (.ref t) s)
    (hsz : items.size ≤ sizeLine) : wpAny (model prog w) A (getItem (.ref t) (.ref sl)) Q E s := by
  obtain ⟨os, hos, hcs, hds⟩ := id hs
  have hTs : s.TypeIs (.ref sl) "slice" := ⟨os, hos, hcs⟩
  unfold getItem
  try with_reducible refine wpAny_holding ?_
  first | refine wpAny_bind (wpAny_pure ?_) | skip
  refine wpAny_bind (wpAny_sequenceKey ht.typeIs (by decide) ?_)
  refine wpAny_bind (wpAny_callSpecial?_slot (name := Str.ofString "__getitem__") ht.typeIs PyProof.Rows.slot_tuple_getitem
    (wpAny_call_entry PyProof.Rows.slot_tuple_getitem ht.typeIs entry_tuple_getitem ?_ (args_tuple_getitem _ _)))
  show wpAny _ _ (Builtin.Tuple.tupleItemsOf (.ref t) >>= _) _ _ s
  refine wpAny_bind (tupleItemsOf_ ht ?_)
  refine wpAny_bind (wpAny_typeOf hTs ?_)
  rw [if_pos (by decide)]
  refine wpAny_bind (sliceApplied_gen hs pl pu ?_)
  have hyes : ((((sIx items.size 0 lo : Nat) : Int) == 0 && (1 : Int) == 1 && (sIx items.size items.size hi - sIx items.size 0 lo) == items.size) = true) := by
    rw [hw.1, hw.2]; simp
  show wpAny _ _ (if (((sIx items.size 0 lo : Nat) : Int) == 0 && (1 : Int) == 1 && (sIx items.size items.size hi - sIx items.size 0 lo) == items.size) = true then _ else _) _ _ s
  rw [if_pos hyes]
  unfold Builtin.Tuple.tupleIsExact
  have hT : s.TypeIs (.ref t) "tuple" := ht.typeIs
  refine wpAny_bind ?_
  refine wpAny_bind (wpAny_typeOf hT ?_)
  refine wpAny_pure ?_
  rw [if_pos (beq_self_eq_true _)]
  refine wpAny_bind (wpAny_rule ?_)
  exact wpAny_pure ⟨_, rfl, wpAny_pure h⟩
end
open L2
theorem opr_or {X : Cx} {f : Value → Value → Sem Value} {r r' : R2} (h : OpR X f r) (h' : OpR X f r') : OpR X f (fun x y H Q => r x y H Q ∨ r' x y H Q) := by
  intro pins s σ H x y v u Q I rx ry q
  rcases q with q | q
  · exact h pins s σ H x y v u Q I rx ry q
  · exact h' pins s σ H x y v u Q I rx ry q
theorem callr_or {X : Cx} {f : Value} {r r' : List V → Hp → VK → Prop} (h : CallR X f r) (h' : CallR X f r') : CallR X f (fun xs H Q => r xs H Q ∨ r' xs H Q) := by
  intro pins s σ H xs us Q I rx q
  rcases q with q | q
  · exact h pins s σ H xs us Q I rx q
  · exact h' pins s σ H xs us Q I rx q
/-- t + u, tuples: the left empty too -/
def rCatT0 (K : PySem.W.Frag) : R2 := fun x y H Q => ∃ a b ys, x = .ref a ∧ y = .ref b ∧ SqT K H a [] ∧ SqT K H b ys ∧ Q (.ref b) H
theorem op_catT0 {X : Cx} : OpR X (binaryOp .Add) (rCatT0 X.K) := by
  intro pins s σ H x y v u Q I rx ry h
  obtain ⟨a, b, ys, rfl, rfl, ha, hb, q⟩ := h
  cases rx
  cases ry
  obtain ⟨its, r1, p1, _⟩ := I.tuple ha
  obtain ⟨its2, r2, p2, _⟩ := I.tuple hb
  cases r1
  exact cat_tup0 p1 p2 ⟨.ref b, H, I, rfl, q⟩
def rSlT1 (K : PySem.W.Frag) : V → Option Int → Option Int → Hp → VK → Prop := fun x lo hi H Q => ∃ a xs, x = .ref a ∧ SqT K H a xs ∧
  (HT.sIx xs.length 0 lo = 0 ∧ HT.sIx xs.length xs.length hi = xs.length) ∧ Q (.ref a) H
theorem sl_tup1 {X : Cx} : SlR X (rSlT1 X.K) := by
  intro pins s σ H x v vl vu lo hi sl Q I rx hs pl pu h
  obtain ⟨a, xs, rfl, hx, hw, q⟩ := h
  cases rx
  obtain ⟨its, r, ht, hz⟩ := I.tuple hx
  have hlen : its.toArray.size = xs.length := by rw [List.size_toArray]; exact r.length.symm
  refine ⟨"tuple", _, PyProof.Rows.slot_tuple_getitem.lookup, ht.typeIs, ?_⟩
  exact getItem_tuple_whole ht hs pl pu (by rw [hlen]; exact hw) ⟨.ref a, H, I, rfl, q⟩ (by rw [hlen]; exact hz)
/-- d[k] by values -/
def rIxD : R2 := fun x y H Q => ∃ a v, x = .ref a ∧ DGet H a y (some v) ∧ Q v H
theorem ix_dict {X : Cx} (hu : X.A.units + 1 < cLine) : IxR X rIxD := by
  intro value slice pins s σ H x y v u Q I rx ry h hs
  obtain ⟨a, z, rfl, g, q⟩ := h
  cases rx
  exact tail_any (dict_typeIs I g) PySem.F.slot_dict_getitem.lookup (d_getItem hu I g ry fun w' s' I' rw' => ⟨z, H, I', rw', q⟩) hs
def rInD (neg : Bool) : R2 := fun x y H Q => ∃ a o, y = .ref a ∧ DGet H a x o ∧ Q (.bl (if neg then !o.isSome else o.isSome)) H
theorem op_in_dict {X : Cx} (hu : X.A.units + 1 < cLine) : OpR X (compareOp .In) (rInD false) := by
  intro pins s σ H x y v u Q I rx ry h
  obtain ⟨a, o, rfl, g, q⟩ := h
  cases ry
  exact d_in hu I g rx fun s3 I3 => ⟨.bl o.isSome, H, I3, rfl, q⟩
theorem op_notin_dict {X : Cx} (hu : X.A.units + 1 < cLine) : OpR X (compareOp .NotIn) (rInD true) := by
  intro pins s σ H x y v u Q I rx ry h
  obtain ⟨a, o, rfl, g, q⟩ := h
  cases ry
  exact d_notIn hu I g rx fun s3 I3 => ⟨.bl (!o.isSome), H, I3, rfl, q⟩
end FR

namespace FL
open PySem PySem.Spec PyProof.Rows L2 FR

/-! ### operations on data -/
def dI (f : Int → Int → Int) : D → D → G → Res D
  | .int i, .int j, g => .ok (.int (f i j)) g
  | _, _, _ => .stuck
def dIC (C : Int → Int → Bool) (f : Int → Int → Int) : D → D → G → Res D
  | .int i, .int j, g => if C i j = true then .ok (.int (f i j)) g else .stuck
  | _, _, _ => .stuck
def dSub := dI (· - ·)
def cMul (i j : Int) : Bool := decide ((-(2 ^ 64) < i ∧ i < 2 ^ 64) ∨ (-(2 ^ 64) < j ∧ j < 2 ^ 64))
def dMul := dIC cMul (· * ·)
def dMod := dIC (fun _ j => decide (0 < j)) (· % ·)
def dDiv := dIC (fun _ j => decide (0 < j ∧ j < 1073741824)) (· / ·)
def dPow := dIC (fun i j => decide (0 ≤ j ∧ j ≤ 1000000 ∧ i.natAbs < 2 ^ 64)) (fun i j => i ^ j.toNat)
def dAdd : D → D → G → Res D
  | .int i, .int j, g => .ok (.int (i + j)) g
  | .str a, .str b, g => if a.length + b.length ≤ sizeLine then .ok (.str (a ++ b)) g else .stuck
  | .tup xs, .tup ys, g => if xs.length + ys.length ≤ sizeLine then .ok (.tup (xs ++ ys)) g else .stuck
  | .lst xs, .lst ys, g => if xs.length + ys.length ≤ sizeLine then .ok (.lst (xs ++ ys)) g else .stuck
  | _, _, _ => .stuck
/-- the items of what is a list or tuple -/
def seqD (g : G) : D → Option (List D)
  | .tup xs => some xs
  | .lst xs => some xs
  | .scr ns => some (ns.map D.int)
  | .ref n => match g[n]? with
    | some (.lst xs) => some xs
    | _ => none
  | _ => none
def lookK {α : Type} (kvs : List (Key × α)) (k : Key) : Option α := (kvs.find? fun kv => decide (kv.1 = k)).map (·.2)
def keyD : D → Option Key
  | .int i => some (.inl i)
  | .str s => some (.inr s)
  | _ => none
def dctD (g : G) : D → Option (List (Key × D))
  | .dct kvs => some kvs
  | .ref n => match g[n]? with
    | some (.dct kvs) => some kvs
    | _ => none
  | _ => none
def okO {α : Type} (o : Option α) (g : G) : Res α := match o with
  | some a => .ok a g
  | none => .stuck
/-- a[i] -/
def dIx (a i : D) (g : G) : Res D := match seqD g a with
  | some xs => match i with
    | .int i => okO (atI xs i) g
    | _ => .stuck
  | none => match dctD g a with
    | some kvs => match keyD i with
      | some k => okO (lookK kvs k) g
      | none => .stuck
    | none => match a, i with
      | .str z, .int i => if z.length ≤ sizeLine then okO ((atI z.cps.toList i).map fun c => D.str ⟨#[c]⟩) g else .stuck
      | _, _ => .stuck
/-- xs[lo:hi] -/
def cutD (xs : List D) (lo hi : Option Int) : List D := (xs.drop (HT.sIx xs.length 0 lo)).take (HT.sIx xs.length xs.length hi - HT.sIx xs.length 0 lo)
def dSl (a : D) (lo hi : Option Int) (g : G) : Res D := match a with
  | .tup xs => .ok (.tup (cutD xs lo hi)) g
  | .lst xs => .ok (.lst (cutD xs lo hi)) g
  | .scr ns => .ok (.lst (cutD (ns.map D.int) lo hi)) g
  | .str z => if z.length ≤ sizeLine then .ok (.str (cutS z lo hi)) g else .stuck
  | _ => .stuck
/-- ==, of flat things -/
def eqF : D → D → Option Bool
  | .non, .non => some true | .non, .int _ => some false | .int _, .non => some false | .non, .bl _ => some false | .bl _, .non => some false | .non, .str _ => some false | .str _, .non => some false
  | .int i, .int j => some (decide (i = j)) | .bl a, .bl b => some (decide (a = b)) | .str a, .str b => some (decide (a = b))
  | .int _, .str _ => some false | .str _, .int _ => some false | .bl _, .str _ => some false | .str _, .bl _ => some false
  | .int i, .bl b => some (i == if b then 1 else 0) | .bl b, .int i => some ((if b then 1 else 0) == i)
  | _, _ => none
def flatD : D → Bool
  | .non => true | .bl _ => true | .int _ => true | .str _ => true | _ => false
mutual
def toPy : D → Option PyData
  | .non => some .none
  | .bl b => some (.bool b)
  | .int i => some (.int i)
  | .str s => some (.str s)
  | .tup xs => (toPyL xs).map .tuple
  | .lst xs => (toPyL xs).map .list
  | _ => none
def toPyL : List D → Option (List PyData)
  | [] => some []
  | d :: ds => match toPy d, toPyL ds with
    | some p, some ps => some (p :: ps)
    | _, _ => none
end
/-- cells are read -/
def derefN (g : G) (n : Nat) : D := match g[n]? with
  | some (.lst xs) => .lst xs
  | _ => .ref n
def deref (g : G) (d : D) : D := match d with
  | .ref n => derefN g n
  | d => d
def eqD (a b : D) : Option Bool := match eqF a b with
  | some r => some r
  | none => match toPy a, toPy b with
    | some p, some q => if SeqAt.shaped p = true ∧ SeqAt.shaped q = true then some (PyData.eqv p q) else none
    | _, _ => none
def dEq (neg : Bool) (a b : D) (g : G) : Res D := match eqD (deref g a) (deref g b) with
  | some r => .ok (.bl (if neg then !r else r)) g
  | none => .stuck
def dCmp (p : Int → Int → Bool) : D → D → G → Res D
  | .int i, .int j, g => .ok (.bl (p i j)) g
  | _, _, _ => .stuck
def dLt := dCmp fun i j => decide (i < j)
def dLe := dCmp fun i j => decide (i ≤ j)
def dGt := dCmp fun i j => decide (j < i)
def dGe := dCmp fun i j => decide (j ≤ i)
def isN : D → Bool
  | .non => true
  | _ => false
def dIsN (neg : Bool) (a : D) (g : G) : Res D := .ok (.bl (if neg then !isN a else isN a)) g
/-- x in xs, of flat things -/
def inF (x : D) (xs : List D) : Bool := xs.any fun y => (eqF y x).getD false
def dIn (neg : Bool) (x a : D) (g : G) : Res D := match seqD g a with
  | some xs => if flatD x = true ∧ xs.all flatD = true then .ok (.bl (if neg then !inF x xs else inF x xs)) g else .stuck
  | none => match dctD g a with
    | some kvs => match keyD x with
      | some k => .ok (.bl (if neg then !(lookK kvs k).isSome else (lookK kvs k).isSome)) g
      | none => .stuck
    | none => match x, a with
      | .str i, .str j => .ok (.bl (if neg then !(!(Builtin.Str.occurrences j i 0 j.length 1).isEmpty) else !(Builtin.Str.occurrences j i 0 j.length 1).isEmpty)) g
      | _, _ => .stuck

section
variable {K : PySem.W.Frag} {cls : Str → Addr} {W : WX} {m : List Addr} {F H : Hp} {g : G} {σ : L2.St}
theorem seq_rep (w : World K cls m F g H) {v : V} {d : D} {ds : List D} (r : Rep K cls m F v d) (e : seqD g d = some ds) : ∃ p xs, v = .ref p ∧ (SqL K H p xs ∨ SqT K H p xs) ∧ RepL K cls m F xs ds := by
  cases r with
  | tup a b => cases e; exact ⟨_, _, rfl, .inr (sqT_mono w.fe a), b⟩
  | lst a b => cases e; exact ⟨_, _, rfl, .inl (.inl (.inl (w.fe _ _ a))), b⟩
  | scr a =>
    rename_i p ns
    cases e
    refine ⟨_, _, rfl, .inl (sqL_mono w.fe a), ?_⟩
    have : ∀ l : List Int, RepL K cls m F (l.map V.int) (l.map D.int) := fun l => by
      induction l with
      | nil => exact .nil
      | cons x l ih => exact .cons (.int x) ih
    exact this ns
  | ref a =>
    rename_i p n
    unfold seqD at e
    cases q : g[n]? with
    | none => simp only [q] at e; cases e
    | some c =>
      cases c with
      | lst xs =>
        simp only [q] at e
        cases e
        obtain ⟨ys, h1, h2⟩ := w.at_ n _ p q a
        exact ⟨p, ys, rfl, .inl (.inl (.inl h1)), h2⟩
      | _ => simp only [q] at e; cases e
  | _ => cases e
theorem dct_rep (w : World K cls m F g H) {v : V} {d : D} {ds : List (Key × D)} (r : Rep K cls m F v d) (e : dctD g d = some ds) : ∃ p xs, v = .ref p ∧ H p = some (.dK xs) ∧ RepK K cls m F xs ds := by
  cases r with
  | dct a b => cases e; exact ⟨_, _, rfl, w.fe _ _ a, b⟩
  | ref a =>
    rename_i p n
    unfold dctD at e
    cases q : g[n]? with
    | none => simp only [q] at e; cases e
    | some c =>
      cases c with
      | dct xs =>
        simp only [q] at e
        cases e
        obtain ⟨ys, h1, h2⟩ := w.at_ n _ p q a
        exact ⟨p, ys, rfl, h1, h2⟩
      | _ => simp only [q] at e; cases e
  | _ => cases e
theorem key_rep {v : V} {d : D} {k : Key} (r : Rep K cls m F v d) (e : keyD d = some k) : v = kV k := by
  cases r with
  | int i => cases e; rfl
  | str s => cases e; rfl
  | _ => cases e
theorem lookK_rep {xs : List (Key × V)} : ∀ {ds : List (Key × D)}, RepK K cls m F xs ds → ∀ k : Key, (∀ d, lookK ds k = some d → ∃ v, valV xs k = some v ∧ Rep K cls m F v d) ∧ (lookK ds k = none → valV xs k = none)
  | [], h, k => by cases h; exact ⟨fun d e => (by cases e), fun _ => rfl⟩
  | (k', d') :: ds, h, k => by
    cases h with
    | cons a b =>
      rename_i v' xs'
      obtain ⟨ih1, ih2⟩ := lookK_rep b k
      unfold lookK valV at *
      rw [List.find?_cons, List.find?_cons]
      by_cases q : k' = k
      · simp only [decide_eq_true q]
        exact ⟨fun d e => ⟨v', rfl, (by cases e; exact a)⟩, fun e => (by cases e)⟩
      · simp only [decide_eq_false q]
        exact ⟨ih1, ih2⟩
theorem okO_ok {α : Type} {o : Option α} {β : Type} {rep : List Addr → Hp → β → α → Prop} {Q : β → Hp → Prop} (h : Sat K cls W σ rep ⟨m, F, g, H⟩ (okO o g) Q) : ∃ a, o = some a ∧ Sat K cls W σ rep ⟨m, F, g, H⟩ (.ok a g) Q := by
  cases o with
  | none => exact h.elim
  | some a => exact ⟨a, rfl, h⟩
theorem ops_I (f : Int → Int → Int) : OpS K cls W (rI0 fun i j => .int (f i j)) (dI f) := fun m F g H σ Q x y a b w ra rb h => by
  cases a <;> cases b <;> first | exact h.elim | skip
  cases ra; cases rb
  exact ⟨_, _, rfl, rfl, h.here w (.int _)⟩
theorem ops_IC {C : Int → Int → Bool} {C' : Int → Int → Prop} {f : Int → Int → Int} (hc : ∀ i j, C i j = true → C' i j) : OpS K cls W (rI C' fun i j => .int (f i j)) (dIC C f) := fun m F g H σ Q x y a b w ra rb h => by
  cases a <;> cases b <;> first | exact h.elim | skip
  cases ra; cases rb
  simp only [dIC] at h
  split at h
  · rename_i e
    exact ⟨_, _, rfl, rfl, hc _ _ e, h.here w (.int _)⟩
  · exact h.elim
theorem ops_cmp (p : Int → Int → Bool) : OpS K cls W (rI0 fun i j => .bl (p i j)) (dCmp p) := fun m F g H σ Q x y a b w ra rb h => by
  cases a <;> cases b <;> first | exact h.elim | skip
  cases ra; cases rb
  exact ⟨_, _, rfl, rfl, h.here w (.bl _)⟩
def rAddS : R2 := fun x y H Q => ∃ i j, x = .str i ∧ y = .str j ∧ i.length + j.length ≤ sizeLine ∧ Q (.str (i ++ j)) H
def rAddAll (K : PySem.W.Frag) : R2 := fun x y H Q => rI0 (fun i j => .int (i + j)) x y H Q ∨ rAddS x y H Q ∨ rCatT K x y H Q ∨ rCatT0 K x y H Q ∨ rCat x y H Q
theorem op_addAll {X : Cx} : OpR X (binaryOp .Add) (rAddAll X.K) := opr_or op_add (opr_or op_add_str (opr_or op_catT (opr_or op_catT0 op_cat)))
theorem ops_add : OpS K cls W (rAddAll K) dAdd := fun m F g H σ Q x y a b w ra rb h => by
  cases a <;> cases b <;> first | exact h.elim | skip
  · cases ra; cases rb
    exact .inl ⟨_, _, rfl, rfl, h.here w (.int _)⟩
  · cases ra; cases rb
    simp only [dAdd] at h
    split at h
    · rename_i e
      exact .inr (.inl ⟨_, _, rfl, rfl, e, h.here w (.str _)⟩)
    · exact h.elim
  · simp only [dAdd] at h
    split at h
    · rename_i xs ys e
      cases ra with
      | tup a1 a2 =>
        cases rb with
        | tup b1 b2 =>
          rename_i p us q vs
          cases xs with
          | nil =>
            cases a2
            exact .inr (.inr (.inr (.inl ⟨_, _, _, rfl, rfl, sqT_mono w.fe a1, sqT_mono w.fe b1, h.here w (.tup b1 b2)⟩)))
          | cons x0 xs =>
            refine .inr (.inr (.inl ⟨_, _, _, _, rfl, rfl, sqT_mono w.fe a1, sqT_mono w.fe b1, ?_, ?_, ?_, ?_⟩))
            · intro z; rw [z] at a2; cases a2
            · rw [a2.length, b2.length]; exact e
            · intro z
              subst z
              cases b2
              rw [List.append_nil] at h
              exact h.here w (.tup a1 a2)
            · intro _ r hr
              exact h.new w hr (.tup sqT_new (RepL.mono (grow_new (w.hF hr)) _ _ (a2.append b2)))
    · exact h.elim
  · simp only [dAdd] at h
    split at h
    · rename_i xs ys e
      cases ra with
      | lst a1 a2 =>
        cases rb with
        | lst b1 b2 =>
          refine .inr (.inr (.inr (.inr ⟨_, _, _, _, rfl, rfl, w.fe _ _ a1, w.fe _ _ b1, ?_, ?_⟩)))
          · rw [a2.length, b2.length]; exact e
          · intro r hr
            exact h.new w hr (.lst upd_same (RepL.mono (grow_new (w.hF hr)) _ _ (a2.append b2)))
    · exact h.elim
theorem atI_rep {xs : List V} {ds : List D} {i : Int} {d : D} (r : RepL K cls m F xs ds) (e : atI ds i = some d) : ∃ v, atI xs i = some v ∧ Rep K cls m F v d := by
  unfold atI at *
  rw [r.length]
  cases q : ixN ds.length i with
  | none => rw [q] at e; cases e
  | some j =>
    rw [q] at e
    obtain ⟨v, h1, h2⟩ := r.get (show ds[j]? = some d from e)
    exact ⟨v, h1, h2⟩
def rIxAll (K : PySem.W.Frag) : R2 := fun x y H Q => rIx K x y H Q ∨ rIxD x y H Q
theorem ix_all {X : Cx} (hu : X.A.units + 1 < cLine) : IxR X (rIxAll X.K) := ix_seq.or (ix_dict hu)
theorem ops_ix : OpS K cls W (rIxAll K) dIx := fun m F g H σ Q x y a b w ra rb h => by
  unfold dIx at h
  cases e : seqD g a with
  | some xs =>
    simp only [e] at h
    cases b <;> first | exact h.elim | skip
    cases rb
    obtain ⟨d, e1, h⟩ := okO_ok h
    obtain ⟨p, us, rfl, hs, rl⟩ := seq_rep w ra e
    obtain ⟨v, e2, rv⟩ := atI_rep rl e1
    rcases hs with hs | hs
    · exact .inl (.inl ⟨p, us, _, v, rfl, rfl, hs, e2, h.here w rv⟩)
    · exact .inl (.inr (.inl ⟨p, us, _, v, rfl, rfl, hs, e2, h.here w rv⟩))
  | none =>
    simp only [e] at h
    cases e1 : dctD g a with
    | some kvs =>
      simp only [e1] at h
      cases e2 : keyD b with
      | none => simp only [e2] at h; exact h.elim
      | some k =>
        simp only [e2] at h
        obtain ⟨d, e3, h⟩ := okO_ok h
        obtain ⟨p, us, rfl, hs, rl⟩ := dct_rep w ra e1
        obtain rfl := key_rep rb e2
        obtain ⟨v, e4, rv⟩ := (lookK_rep rl k).1 d e3
        refine .inr ⟨p, v, rfl, ?_, h.here w rv⟩
        rw [← e4]
        exact DGet.k hs
    | none =>
      simp only [e1] at h
      cases a <;> first | exact h.elim | skip
      cases b <;> first | exact h.elim | skip
      cases ra; cases rb
      simp only at h
      split at h
      · rename_i hl
        obtain ⟨d, e3, h⟩ := okO_ok h
        obtain ⟨c, e4, rfl⟩ := Option.map_eq_some_iff.mp e3
        exact .inl (.inr (.inr ⟨_, _, c, rfl, rfl, hl, e4, h.here w (.str _)⟩))
      · exact h.elim
end
end FL

namespace FL
open PySem PySem.Spec PyProof.Rows L2 FR

/-! ### built-ins on data -/
def dLen : List D → G → Res D
  | [d], g => match seqD g d with
    | some xs => .ok (.int xs.length) g
    | none => match dctD g d with
      | some kvs => .ok (.int kvs.length) g
      | none => match d with
        | .str z => if z.length ≤ sizeLine then .ok (.int z.length) g else .stuck
        | _ => .stuck
  | _, _ => .stuck
def dAbs : List D → G → Res D
  | [.int i], g => .ok (.int (if i < 0 then -i else i)) g
  | _, _ => .stuck
def dIntC : List D → G → Res D
  | [.int i], g => .ok (.int i) g
  | [.bl b], g => .ok (.int (if b then 1 else 0)) g
  | [.str a], g => match PySem.intText? a with
    | some n => if a.length ≤ 640 then .ok (.int n) g else .stuck
    | none => .stuck
  | _, _ => .stuck
def dBoolC : List D → G → Res D
  | [.int i], g => .ok (.bl (i != 0)) g
  | [.bl b], g => .ok (.bl b) g
  | _, _ => .stuck
def dStrC : List D → G → Res D
  | [.int i], g => if i.natAbs.log2 < 1920 then .ok (.str (toString i)) g else .stuck
  | _, _ => .stuck
def dListC : List D → G → Res D
  | [d], g => match seqD g d with
    | some xs => .ok (.lst xs) g
    | none => .stuck
  | _, _ => .stuck
def dTupC : List D → G → Res D
  | [d], g => match seqD g d with
    | some xs => .ok (.tup xs) g
    | none => .stuck
  | _, _ => .stuck
def bools : List D → Option (List Bool)
  | [] => some []
  | .bl b :: ds => (bools ds).map (b :: ·)
  | _ :: _ => none
def dAll : List D → G → Res D
  | [.lst ds], g => match bools ds with
    | some bs => .ok (.bl (bs.all id)) g
    | none => .stuck
  | _, _ => .stuck
def dAny : List D → G → Res D
  | [.lst ds], g => match bools ds with
    | some bs => .ok (.bl (bs.any id)) g
    | none => .stuck
  | _, _ => .stuck
def dMax2 : List D → G → Res D
  | [.int i, .int j], g => .ok (.int (if j > i then j else i)) g
  | _, _ => .stuck
def dMin2 : List D → G → Res D
  | [.int i, .int j], g => .ok (.int (if j < i then j else i)) g
  | _, _ => .stuck
/-- the built-in type of a value -/
def tyD (g : G) : D → Option String
  | .non => some "NoneType"
  | .bl _ => some "bool"
  | .int _ => some "int"
  | .str _ => some "str"
  | .tup _ => some "tuple"
  | .lst _ => some "list"
  | .dct _ => some "dict"
  | .ref n => match g[n]? with
    | some (.lst _) => some "list"
    | some (.dct _) => some "dict"
    | _ => none
  | _ => none
def subT (a b : String) : Bool := a == b || (a == "bool" && b == "int")
/-- isinstance with built-in types -/
def dIsi (ns : List String) (d : D) (g : G) : Res D := match tyD g d with
  | some a => .ok (.bl (ns.any fun b => subT a b)) g
  | none => .stuck

section
variable {K : PySem.W.Frag} {cls : Str → Addr} {W : WX} {m : List Addr} {F H : Hp} {g : G} {σ : L2.St}
mutual
theorem toPy_rep (w : World K cls m F g H) : ∀ (d : D) (v : V) (p : PyData), Rep K cls m F v d → toPy d = some p → Dp K H v p
  | .non, _, _, r, e => by cases r; simp only [toPy] at e; cases e; exact .non
  | .bl b, _, _, r, e => by cases r; simp only [toPy] at e; cases e; exact .bl b
  | .int b, _, _, r, e => by cases r; simp only [toPy] at e; cases e; exact .int b
  | .str b, _, _, r, e => by cases r; simp only [toPy] at e; cases e; exact .str b
  | .tup ds, _, _, r, e => by
    cases r with
    | tup a b =>
      simp only [toPy] at e
      obtain ⟨ps, e1, rfl⟩ := Option.map_eq_some_iff.mp e
      exact .tup (sqT_mono w.fe a) (toPyL_rep w ds _ ps b e1)
  | .lst ds, _, _, r, e => by
    cases r with
    | lst a b =>
      simp only [toPy] at e
      obtain ⟨ps, e1, rfl⟩ := Option.map_eq_some_iff.mp e
      exact .lst (SqL.of (w.fe _ _ a)) (toPyL_rep w ds _ ps b e1)
  | .scr _, _, _, _, e => by simp only [toPy] at e; cases e
  | .dct _, _, _, _, e => by simp only [toPy] at e; cases e
  | .ins _ _, _, _, _, e => by simp only [toPy] at e; cases e
  | .ref _, _, _, _, e => by simp only [toPy] at e; cases e
theorem toPyL_rep (w : World K cls m F g H) : ∀ (ds : List D) (vs : List V) (ps : List PyData), RepL K cls m F vs ds → toPyL ds = some ps → DpAll K H vs ps
  | [], _, _, r, e => by cases r; simp only [toPyL] at e; cases e; exact .nil
  | d :: ds, _, ps, r, e => by
    cases r with
    | cons a b =>
      simp only [toPyL] at e
      cases e1 : toPy d with
      | none => simp only [e1] at e; cases e
      | some p =>
        cases e2 : toPyL ds with
        | none => simp only [e1, e2] at e; cases e
        | some qs =>
          simp only [e1, e2] at e
          cases e
          exact .cons (toPy_rep w d _ p a e1) (toPyL_rep w ds _ qs b e2)
end
def rEqAll (K : PySem.W.Frag) : R2 := fun x y H Q => rEq x y H Q ∨ rEqD K x y H Q
def rNeAll (K : PySem.W.Frag) : R2 := fun x y H Q => rNe x y H Q ∨ rNeD K x y H Q
theorem op_eqAll {X : Cx} (hu : X.A.units + 64 < cLine) : OpR X (compareOp .Eq) (rEqAll X.K) := opr_or op_eq (op_eqD hu)
theorem op_neAll {X : Cx} (hu : X.A.units + 64 < cLine) : OpR X (compareOp .NotEq) (rNeAll X.K) := opr_or op_ne (op_neD hu)
/-- what == needs of two values -/
def EqV (K : PySem.W.Frag) (H : Hp) (x y : V) (r : Bool) : Prop := (scal x y = true ∧ decide (x = y) = r) ∨ ∃ d e, Dp K H x d ∧ Dp K H y e ∧ SeqAt.shaped d = true ∧ SeqAt.shaped e = true ∧ PyData.eqv d e = r
theorem eqF_rep {x y : V} {a b : D} {r : Bool} (ra : Rep K cls m F x a) (rb : Rep K cls m F y b) (e : eqF a b = some r) : EqV K H x y r := by
  cases a <;> cases b <;> first | (cases e; done) | skip
  all_goals (cases ra; cases rb; simp only [eqF, Option.some.injEq] at e; subst e)
  all_goals first
    | (refine .inl ⟨rfl, ?_⟩; first | rfl | simp)
    | exact .inr ⟨_, _, .int _, .bl _, rfl, rfl, rfl⟩
    | exact .inr ⟨_, _, .bl _, .int _, rfl, rfl, rfl⟩
theorem deref_rep (w : World K cls m F g H) {v : V} {d : D} (r : Rep K cls m F v d) : Rep K cls m F v (deref g d) ∨ ∃ (p : Addr) (xs : List V) (ds : List D), v = .ref p ∧ deref g d = .lst ds ∧ H p = some (.lst xs) ∧ RepL K cls m F xs ds := by
  cases r with
  | ref a =>
    rename_i p n
    have id_ : (∀ xs, g[n]? ≠ some (Cell.lst xs)) → deref g (.ref n) = .ref n := fun hn => by
      show derefN g n = _
      unfold derefN
      split
      · rename_i xs e
        exact absurd e (hn xs)
      · rfl
    cases q : g[n]? with
    | none => exact .inl (by rw [id_ (fun xs z => by rw [q] at z; cases z)]; exact .ref a)
    | some c =>
      cases c with
      | lst xs =>
        obtain ⟨ys, h1, h2⟩ := w.at_ n _ p q a
        exact .inr ⟨p, ys, xs, rfl, (by simp only [deref, derefN, q]), h1, h2⟩
      | _ => exact .inl (by rw [id_ (fun xs z => by rw [q] at z; cases z)]; exact .ref a)
  | tup a b => exact .inl (.tup a b)
  | lst a b => exact .inl (.lst a b)
  | scr a => exact .inl (.scr a)
  | dct a b => exact .inl (.dct a b)
  | ins a b => exact .inl (.ins a b)
  | non => exact .inl .non
  | bl b => exact .inl (.bl b)
  | int i => exact .inl (.int i)
  | str s => exact .inl (.str s)
theorem toPy_deref (w : World K cls m F g H) {v : V} {d : D} {p : PyData} (r : Rep K cls m F v d) (e : toPy (deref g d) = some p) : Dp K H v p := by
  rcases deref_rep w r with h | ⟨a, xs, ds, rfl, e2, h1, h2⟩
  · exact toPy_rep w _ _ _ h e
  · rw [e2] at e
    simp only [toPy] at e
    obtain ⟨ps, e1, rfl⟩ := Option.map_eq_some_iff.mp e
    exact .lst (SqL.of h1) (toPyL_rep w ds _ ps h2 e1)
theorem eqD_rep (w : World K cls m F g H) {x y : V} {a b : D} {r : Bool} (ra : Rep K cls m F x a) (rb : Rep K cls m F y b) (e : eqD (deref g a) (deref g b) = some r) : EqV K H x y r := by
  unfold eqD at e
  cases q : eqF (deref g a) (deref g b) with
  | some z =>
    simp only [q] at e
    cases e
    have ha : Rep K cls m F x (deref g a) := by
      rcases deref_rep w ra with h | ⟨p, xs, ds, rfl, e2, h1, h2⟩
      · exact h
      · rw [e2] at q; unfold eqF at q; split at q <;> first | (cases q; done) | (rename_i hh _; cases hh)
    have hb : Rep K cls m F y (deref g b) := by
      rcases deref_rep w rb with h | ⟨p, xs, ds, rfl, e2, h1, h2⟩
      · exact h
      · rw [e2] at q; unfold eqF at q; split at q <;> first | (cases q; done) | (rename_i _ hh; cases hh)
    exact eqF_rep ha hb q
  | none =>
    simp only [q] at e
    cases e1 : toPy (deref g a) with
    | none => simp only [e1] at e; cases e
    | some p1 =>
      cases e2 : toPy (deref g b) with
      | none => simp only [e1, e2] at e; cases e
      | some p2 =>
        simp only [e1, e2] at e
        split at e
        · rename_i hs
          cases e
          exact .inr ⟨p1, p2, toPy_deref w ra e1, toPy_deref w rb e2, hs.1, hs.2, rfl⟩
        · cases e
theorem ops_eq : OpS K cls W (rEqAll K) (dEq false) := fun m F g H σ Q x y a b w ra rb h => by
  unfold dEq at h
  cases e : eqD (deref g a) (deref g b) with
  | none => simp only [e] at h; exact h.elim
  | some r =>
    simp only [e] at h
    have hq : Q (.bl r) H := h.here w (.bl r)
    rcases eqD_rep w ra rb e with ⟨h1, h2⟩ | ⟨p, q, h1, h2, h3, h4, h5⟩
    · exact .inl ⟨h1, by rw [h2]; exact hq⟩
    · exact .inr ⟨p, q, h1, h2, h3, h4, by rw [h5]; exact hq⟩
theorem ops_ne : OpS K cls W (rNeAll K) (dEq true) := fun m F g H σ Q x y a b w ra rb h => by
  unfold dEq at h
  cases e : eqD (deref g a) (deref g b) with
  | none => simp only [e] at h; exact h.elim
  | some r =>
    simp only [e] at h
    have hq : Q (.bl (!r)) H := h.here w (.bl (!r))
    rcases eqD_rep w ra rb e with ⟨h1, h2⟩ | ⟨p, q, h1, h2, h3, h4, h5⟩
    · exact .inl ⟨h1, by rw [h2]; exact hq⟩
    · exact .inr ⟨p, q, h1, h2, h3, h4, by rw [h5]; exact hq⟩
theorem isN_rep {x : V} {a : D} (r : Rep K cls m F x a) : decide (x = .non) = isN a := by
  cases r <;> rfl
def rIsN (neg : Bool) : R2 := fun x y H Q => y = .non ∧ Q (.bl (if neg then !decide (x = .non) else decide (x = .non))) H
theorem op_isN' {X : Cx} : OpR X (compareOp .Is) (rIsN false) := op_isN
theorem op_notN' {X : Cx} : OpR X (compareOp .IsNot) (rIsN true) := op_notN
/-- x is None: by its one operand -/
theorem se_isN {neg : Bool} {ta : TE} {fa : Env → G → Res D} (ha : SE K cls W ta fa) : SE K cls W (tOp (rIsN neg) ta (tC .non)) (f1 (dIsN neg) fa) := fun m F g H env os σ Q rl h =>
  ha m F g H env os σ _ rl (h.bind fun a g1 x m1 F1 H1 s1 w1 r1 h1 => ⟨rfl, by
    rw [isN_rep r1]
    exact h1.here w1 (.bl _)⟩)
theorem flat_rep {x : V} {a : D} (r : Rep K cls m F x a) (h : flatD a = true) : flatV x = true := by
  cases r <;> first | rfl | cases h
theorem flat_repL : ∀ {xs : List V} {as : List D}, RepL K cls m F xs as → as.all flatD = true → xs.all flatV = true
  | _, [], r, _ => by cases r; rfl
  | _, a :: as, r, h => by
    cases r with
    | cons r1 r2 =>
      rw [List.all_cons, Bool.and_eq_true] at h ⊢
      exact ⟨flat_rep r1 h.1, flat_repL r2 h.2⟩
theorem eqV_rep {x y : V} {a b : D} (ra : Rep K cls m F x a) (rb : Rep K cls m F y b) (ha : flatD a = true) (hb : flatD b = true) : eqV y x = (eqF b a).getD false := by
  cases ra <;> first | (cases ha; done) | (cases rb <;> first | (cases hb; done) | skip)
  all_goals first
    | rfl
    | (show _ = (some _).getD false; rw [Option.getD_some]; first | exact Bool.beq_eq_decide_eq _ _ | rfl)
theorem inV_rep {x : V} {a : D} (ra : Rep K cls m F x a) (ha : flatD a = true) : ∀ {xs : List V} {as : List D}, RepL K cls m F xs as → as.all flatD = true → inV x xs = inF a as
  | _, [], r, _ => by cases r; rfl
  | _, b :: as, r, h => by
    cases r with
    | cons r1 r2 =>
      rw [List.all_cons, Bool.and_eq_true] at h
      have ih := inV_rep ra ha r2 h.2
      unfold inV inF at *
      rw [List.any_cons, List.any_cons, ih, eqV_rep ra r1 ha h.1]
def rInS (neg : Bool) : R2 := fun x y H Q => ∃ i j, x = .str i ∧ y = .str j ∧ Q (.bl (if neg then !(!(Builtin.Str.occurrences j i 0 j.length 1).isEmpty) else !(Builtin.Str.occurrences j i 0 j.length 1).isEmpty)) H
def rInAll (K : PySem.W.Frag) (neg : Bool) : R2 := fun x y H Q => rIn K neg x y H Q ∨ rInD neg x y H Q ∨ rInS neg x y H Q
theorem op_inAll {X : Cx} (hu : X.A.units + 1 < cLine) : OpR X (compareOp .In) (rInAll X.K false) := opr_or op_in_seq (opr_or (op_in_dict hu) op_in_str)
theorem op_notinAll {X : Cx} (hu : X.A.units + 1 < cLine) : OpR X (compareOp .NotIn) (rInAll X.K true) := opr_or op_notIn_seq (opr_or (op_notin_dict hu) op_notIn_str)
theorem ops_in {neg : Bool} : OpS K cls W (rInAll K neg) (dIn neg) := fun m F g H σ Q x y a b w ra rb h => by
  unfold dIn at h
  cases e : seqD g b with
  | some xs =>
    simp only [e] at h
    split at h
    · rename_i hf
      obtain ⟨p, us, rfl, hs, rl⟩ := seq_rep w rb e
      refine .inl ⟨p, us, rfl, hs, flat_rep ra hf.1, flat_repL rl hf.2, ?_⟩
      rw [inV_rep ra hf.1 rl hf.2]
      exact h.here w (.bl _)
    · exact h.elim
  | none =>
    simp only [e] at h
    cases e1 : dctD g b with
    | some kvs =>
      simp only [e1] at h
      cases e2 : keyD a with
      | none => simp only [e2] at h; exact h.elim
      | some k =>
        simp only [e2] at h
        obtain ⟨p, us, rfl, hs, rl⟩ := dct_rep w rb e1
        obtain rfl := key_rep ra e2
        refine .inr (.inl ⟨p, _, rfl, DGet.k hs, ?_⟩)
        have he : (valV us k).isSome = (lookK kvs k).isSome := by
          obtain ⟨l1, l2⟩ := lookK_rep rl k
          cases q : lookK kvs k with
          | none => rw [l2 q]; rfl
          | some d =>
            obtain ⟨v, h1, _⟩ := l1 d q
            rw [h1]; rfl
        rw [he]
        exact h.here w (.bl _)
    | none =>
      simp only [e1] at h
      cases a <;> cases b <;> first | exact h.elim | skip
      cases ra; cases rb
      exact .inr (.inr ⟨_, _, rfl, rfl, h.here w (.bl _)⟩)
/-! calls of built-ins -/
theorem repL1 {xs : List V} {a : D} (r : RepL K cls m F xs [a]) : ∃ x, xs = [x] ∧ Rep K cls m F x a := by
  cases r with
  | cons r1 r2 => cases r2; exact ⟨_, rfl, r1⟩
theorem repL2 {xs : List V} {a b : D} (r : RepL K cls m F xs [a, b]) : ∃ x y, xs = [x, y] ∧ Rep K cls m F x a ∧ Rep K cls m F y b := by
  cases r with
  | cons r1 r2 =>
    obtain ⟨y, rfl, r3⟩ := repL1 r2
    exact ⟨_, _, rfl, r1, r3⟩
def rLenAll (K : PySem.W.Frag) : List V → Hp → VK → Prop := fun xs H Q => (∃ x n, xs = [x] ∧ LenV K x H n ∧ Q (.int n) H) ∨ ∃ a kvs, xs = [V.ref a] ∧ H a = some (.dK kvs) ∧ Q (.int kvs.length) H
theorem call_lenAll {X : Cx} : CallR X (.builtin "len") (rLenAll X.K) := callr_or call_len call_lenD
theorem repK_length : ∀ {xs : List (Key × V)} {ds : List (Key × D)}, RepK K cls m F xs ds → xs.length = ds.length
  | _, [], r => by cases r; rfl
  | _, d :: ds, r => by
    cases r with
    | cons a b => rw [List.length_cons, List.length_cons, repK_length b]
theorem cs_len : CallS K cls W (rLenAll K) dLen := fun m F g H σ Q xs as w r h => by
  match as, r, h with
  | [d], r, h =>
    obtain ⟨x, rfl, r0⟩ := repL1 r
    simp only [dLen] at h
    cases e : seqD g d with
    | some ds =>
      simp only [e] at h
      obtain ⟨p, us, rfl, hs, rl⟩ := seq_rep w r0 e
      refine .inl ⟨_, us.length, rfl, ?_, by rw [rl.length]; exact h.here w (.int _)⟩
      rcases hs with hs | hs
      · exact .inl ⟨us, hs, rfl⟩
      · exact .inr ⟨us, hs, rfl⟩
    | none =>
      simp only [e] at h
      cases e1 : dctD g d with
      | some kvs =>
        simp only [e1] at h
        obtain ⟨p, us, rfl, hs, rl⟩ := dct_rep w r0 e1
        exact .inr ⟨p, us, rfl, hs, by rw [repK_length rl]; exact h.here w (.int _)⟩
      | none =>
        simp only [e1] at h
        cases d <;> first | exact h.elim | skip
        cases r0
        simp only at h
        split at h
        · rename_i hl
          exact .inl ⟨_, _, rfl, ⟨hl, rfl⟩, h.here w (.int _)⟩
        · exact h.elim
  | [], _, h => exact h.elim
  | _ :: _ :: _, _, h => exact h.elim
theorem cs_abs : CallS K cls W (fun xs H Q => ∃ i, xs = [.int i] ∧ Q (.int (if i < 0 then -i else i)) H) dAbs := fun m F g H σ Q xs as w r h => by
  unfold dAbs at h
  split at h
  · obtain ⟨x, rfl, r0⟩ := repL1 r
    cases r0
    exact ⟨_, rfl, h.here w (.int _)⟩
  · exact h.elim
def rIntAll : List V → Hp → VK → Prop := fun xs H Q => ((∃ i, xs = [.int i] ∧ Q (.int i) H) ∨ ∃ k, xs = [.bl k] ∧ Q (.int (if k then 1 else 0)) H) ∨ ∃ a n, xs = [.str a] ∧ PySem.intText? a = some n ∧ a.length ≤ 640 ∧ Q (.int n) H
theorem call_intAll {X : Cx} : CallR X (.type "int") rIntAll := callr_or call_int1 call_int_str
theorem cs_int : CallS K cls W rIntAll dIntC := fun m F g H σ Q xs as w r h => by
  unfold dIntC at h
  split at h
  · obtain ⟨x, rfl, r0⟩ := repL1 r
    cases r0
    exact .inl (.inl ⟨_, rfl, h.here w (.int _)⟩)
  · obtain ⟨x, rfl, r0⟩ := repL1 r
    cases r0
    exact .inl (.inr ⟨_, rfl, h.here w (.int _)⟩)
  · obtain ⟨x, rfl, r0⟩ := repL1 r
    cases r0
    split at h
    · rename_i n e
      split at h
      · rename_i hl
        exact .inr ⟨_, _, rfl, e, hl, h.here w (.int _)⟩
      · exact h.elim
    · exact h.elim
  · exact h.elim
theorem cs_bool : CallS K cls W (fun xs H Q => (∃ i, xs = [.int i] ∧ Q (.bl (i != 0)) H) ∨ ∃ k, xs = [.bl k] ∧ Q (.bl k) H) dBoolC := fun m F g H σ Q xs as w r h => by
  unfold dBoolC at h
  split at h
  · obtain ⟨x, rfl, r0⟩ := repL1 r
    cases r0
    exact .inl ⟨_, rfl, h.here w (.bl _)⟩
  · obtain ⟨x, rfl, r0⟩ := repL1 r
    cases r0
    exact .inr ⟨_, rfl, h.here w (.bl _)⟩
  · exact h.elim
theorem cs_str : CallS K cls W (fun xs H Q => ∃ i, xs = [.int i] ∧ i.natAbs.log2 < 1920 ∧ Q (.str (toString i)) H) dStrC := fun m F g H σ Q xs as w r h => by
  unfold dStrC at h
  split at h
  · obtain ⟨x, rfl, r0⟩ := repL1 r
    cases r0
    split at h
    · rename_i hl
      exact ⟨_, rfl, hl, h.here w (.str _)⟩
    · exact h.elim
  · exact h.elim
theorem cs_list : CallS K cls W (fun xs H Q => ∃ p ys, xs = [.ref p] ∧ (SqL K H p ys ∨ SqT K H p ys) ∧ ∀ l, H l = none → Q (.ref l) (upd H l (.lst ys))) dListC := fun m F g H σ Q xs as w r h => by
  unfold dListC at h
  split at h
  · rename_i d
    obtain ⟨x, rfl, r0⟩ := repL1 r
    cases e : seqD g d with
    | some ds =>
      simp only [e] at h
      obtain ⟨p, us, rfl, hs, rl⟩ := seq_rep w r0 e
      exact ⟨p, us, rfl, hs, fun l hl => h.new w hl (.lst upd_same (RepL.mono (grow_new (w.hF hl)) _ _ rl))⟩
    | none => simp only [e] at h; exact h.elim
  · exact h.elim
theorem seq_rep2 (w : World K cls m F g H) {v : V} {d : D} {ds : List D} (r : Rep K cls m F v d) (e : seqD g d = some ds) : ∃ p xs, v = .ref p ∧ (SqL K H p xs ∨ (SqT K F p xs ∧ d = .tup ds)) ∧ RepL K cls m F xs ds := by
  cases r with
  | tup a b => cases e; exact ⟨_, _, rfl, .inr ⟨a, rfl⟩, b⟩
  | lst a b => cases e; exact ⟨_, _, rfl, .inl (SqL.of (w.fe _ _ a)), b⟩
  | scr a =>
    obtain ⟨p, xs, e1, e2, e3⟩ := seq_rep w (.scr a) e
    cases e1
    cases e
    refine ⟨_, _, rfl, .inl (sqL_mono w.fe a), ?_⟩
    rename_i ns
    have : ∀ l : List Int, RepL K cls m F (l.map V.int) (l.map D.int) := fun l => by
      induction l with
      | nil => exact .nil
      | cons x l ih => exact .cons (.int x) ih
    exact this ns
  | ref a =>
    rename_i p n
    unfold seqD at e
    cases q : g[n]? with
    | none => simp only [q] at e; cases e
    | some c =>
      cases c with
      | lst xs =>
        simp only [q] at e
        cases e
        obtain ⟨ys, h1, h2⟩ := w.at_ n _ p q a
        exact ⟨p, ys, rfl, .inl (SqL.of h1), h2⟩
      | _ => simp only [q] at e; cases e
  | _ => cases e
theorem cs_tuple : CallS K cls W (fun xs H Q => ∃ p ys, xs = [.ref p] ∧ ((SqL K H p ys ∧ ∀ l, H l = none → Q (.ref l) (upd H l (.tup ys))) ∨ (SqT K H p ys ∧ Q (.ref p) H))) dTupC := fun m F g H σ Q xs as w r h => by
  unfold dTupC at h
  split at h
  · rename_i d
    obtain ⟨x, rfl, r0⟩ := repL1 r
    cases e : seqD g d with
    | some ds =>
      simp only [e] at h
      obtain ⟨p, us, rfl, hs, rl⟩ := seq_rep2 w r0 e
      rcases hs with hs | ⟨hs, rfl⟩
      · exact ⟨p, us, rfl, .inl ⟨hs, fun l hl => h.new w hl (.tup sqT_new (RepL.mono (grow_new (w.hF hl)) _ _ rl))⟩⟩
      · exact ⟨p, us, rfl, .inr ⟨sqT_mono w.fe hs, h.here w (.tup hs rl)⟩⟩
    | none => simp only [e] at h; exact h.elim
  · exact h.elim
theorem bools_rep : ∀ {xs : List V} {ds : List D} {bs : List Bool}, RepL K cls m F xs ds → bools ds = some bs → xs = bs.map V.bl
  | _, [], bs, r, e => by
    cases r
    cases e
    rfl
  | _, d :: ds, bs, r, e => by
    cases r with
    | cons r1 r2 =>
      cases d <;> first | (cases e; done) | skip
      cases r1
      obtain ⟨cs, e1, rfl⟩ := Option.map_eq_some_iff.mp (show (bools ds).map _ = some bs from e)
      rw [bools_rep r2 e1]
      rfl
theorem seqL_only (w : World K cls m F g H) {d : D} (hnt : ∀ xs, d ≠ .tup xs) {v : V} {ds : List D} (r : Rep K cls m F v d) (e : seqD g d = some ds) : ∃ p xs, v = .ref p ∧ SqL K H p xs ∧ RepL K cls m F xs ds := by
  obtain ⟨p, us, h1, hs, rl⟩ := seq_rep2 w r e
  rcases hs with hs | ⟨_, h⟩
  · exact ⟨p, us, h1, hs, rl⟩
  · exact absurd h (hnt _)
/-- the built-in types, both answers -/
theorem kit_all : ∀ a ∈ (["NoneType", "bool", "int", "str", "tuple", "list", "dict"] : List String), ∀ b ∈ (["bool", "int", "str", "tuple", "list", "dict"] : List String), kitB a b = some (subT a b) := by decide +kernel
theorem cs_all : CallS K cls W (rAll K) dAll := fun m F g H σ Q xs as w r h => by
  unfold dAll at h
  split at h
  · rename_i g' ds
    obtain ⟨x, rfl, r0⟩ := repL1 r
    cases r0 with
    | lst a b =>
      cases e : bools ds with
      | none => simp only [e] at h; exact h.elim
      | some bs =>
        simp only [e] at h
        exact ⟨_, bs, rfl, SqL.of (by rw [← bools_rep b e]; exact w.fe _ _ a), h.here w (.bl _)⟩
  · exact h.elim
theorem cs_any : CallS K cls W (rAny K) dAny := fun m F g H σ Q xs as w r h => by
  unfold dAny at h
  split at h
  · rename_i g' ds
    obtain ⟨x, rfl, r0⟩ := repL1 r
    cases r0 with
    | lst a b =>
      cases e : bools ds with
      | none => simp only [e] at h; exact h.elim
      | some bs =>
        simp only [e] at h
        exact ⟨_, bs, rfl, SqL.of (by rw [← bools_rep b e]; exact w.fe _ _ a), h.here w (.bl _)⟩
  · exact h.elim
theorem cs_max2 : CallS K cls W (fun xs H Q => ∃ i j, xs = [.int i, .int j] ∧ Q (.int (if j > i then j else i)) H) dMax2 := fun m F g H σ Q xs as w r h => by
  unfold dMax2 at h
  split at h
  · obtain ⟨x, y, rfl, r1, r2⟩ := repL2 r
    cases r1; cases r2
    exact ⟨_, _, rfl, h.here w (.int _)⟩
  · exact h.elim
theorem cs_min2 : CallS K cls W (fun xs H Q => ∃ i j, xs = [.int i, .int j] ∧ Q (.int (if j < i then j else i)) H) dMin2 := fun m F g H σ Q xs as w r h => by
  unfold dMin2 at h
  split at h
  · obtain ⟨x, y, rfl, r1, r2⟩ := repL2 r
    cases r1; cases r2
    exact ⟨_, _, rfl, h.here w (.int _)⟩
  · exact h.elim
theorem tyD_rep (w : World K cls m F g H) {v : V} {d : D} {a : String} (r : Rep K cls m F v d) (e : tyD g d = some a) : TyX K H v (.type a) ∧ a ∈ (["NoneType", "bool", "int", "str", "tuple", "list", "dict"] : List String) := by
  cases r with
  | non => cases e; exact ⟨.base .non, by decide⟩
  | bl b => cases e; exact ⟨.base (.bl b), by decide⟩
  | int i => cases e; exact ⟨.base (.int i), by decide⟩
  | str s => cases e; exact ⟨.base (.str s), by decide⟩
  | tup a b =>
    cases e
    refine ⟨?_, by decide⟩
    rcases sqT_mono w.fe a with (h | ⟨o, h⟩) | ⟨o, its, n, h1, h2, _⟩
    · exact .base (.tup h)
    · exact .fTuple h
    · exact .kTuple h1 h2
  | lst a b => cases e; exact ⟨.base (.lst (w.fe _ _ a)), by decide⟩
  | dct a b => cases e; exact ⟨.base (.dK (w.fe _ _ a)), by decide⟩
  | scr a => cases e
  | ins a b => cases e
  | ref a =>
    rename_i p n
    unfold tyD at e
    cases q : g[n]? with
    | none => simp only [q] at e; cases e
    | some c =>
      cases c with
      | lst xs =>
        simp only [q] at e
        cases e
        obtain ⟨ys, h1, h2⟩ := w.at_ n _ p q a
        exact ⟨.base (.lst h1), by decide⟩
      | dct xs =>
        simp only [q] at e
        cases e
        obtain ⟨ys, h1, h2⟩ := w.at_ n _ p q a
        exact ⟨.base (.dK h1), by decide⟩
      | dead => simp only [q] at e; cases e
      | ins _ _ => simp only [q] at e; cases e
abbrev tyNames : List String := ["bool", "int", "str", "tuple", "list", "dict"]
theorem any_kit {a : String} (ha : a ∈ (["NoneType", "bool", "int", "str", "tuple", "list", "dict"] : List String)) : ∀ ns : List String, (∀ n ∈ ns, n ∈ tyNames) → PySem.W.kitAny K (.type a) (ns.map Value.type) = some (ns.any fun b => subT a b)
  | [], _ => rfl
  | n :: ns, h => by
    have h1 : PySem.W.kitOne K (.type a) (.type n) = some (subT a n) := kit_ty (kit_all a ha n (h n List.mem_cons_self))
    have ih := any_kit ha ns fun x hx => h x (List.mem_cons_of_mem _ hx)
    rw [List.map_cons, List.any_cons]
    cases e : subT a n with
    | true => exact kitAny_cons (b := true) (by rw [h1, e]) (fun z => by cases z) fun _ => rfl
    | false => exact kitAny_cons (b := false) (by rw [h1, e]) (fun _ => by simpa using ih) fun z => by cases z
/-- isinstance(x, T) -/
theorem se_isi1 {ta : TE} {fa : Env → G → Res D} {n : String} (hn : n ∈ tyNames) (ha : SE K cls W ta fa) : SE K cls W (tCB (rIsi K) (tCons ta (tCons (tC (.ty n)) tNil))) (f1 (dIsi [n]) fa) := fun m F g H env os σ Q rl h =>
  ha m F g H env os σ _ rl (h.bind fun a g1 x m1 F1 H1 s1 w1 r1 h1 => by
    unfold dIsi at h1
    cases e : tyD g1 a with
    | none => simp only [e] at h1; exact h1.elim
    | some t =>
      simp only [e] at h1
      obtain ⟨ty, hm⟩ := tyD_rep w1 r1 e
      refine ⟨x, .ty n, _, _, _, rfl, .ty n, ty, kit_ty (kit_all t hm n hn), ?_⟩
      have q := h1.here w1 (Rep.bl _)
      rw [List.any_cons, List.any_nil, Bool.or_false] at q
      exact q)
/-- the tuple of types behind isinstance -/
def tTys (ns : List String) : TA := fun _ H Q => Q (ns.map V.ty) H
theorem pa_tys_nil {X : Cx} : PA X [] (tTys []) := pa_nil
theorem pa_tys_cons {X : Cx} {x : Str} {n : String} {pos : Pos} {es : List Expr} {ns : List String} (hg : Gl X x) (hm : X.mg x = none) (hv : bootBuiltins x = some (.type n)) (hr : PA X es (tTys ns))
    (hn : x ≠ "__name__" := by decide) (hd : (x == ("__debug__" : Str)) = false := by decide) : PA X (.Name x pos :: es) (tTys (n :: ns)) :=
  pa_cons (pe_bltn (v := .ty n) hg hm hv rfl hn hd) hr
theorem classes_of : ∀ ns : List String, Paired ClsV (ns.map V.ty) (ns.map Value.type)
  | [] => .nil
  | n :: ns => .cons (.ty n) (classes_of ns)
theorem se_isiT {ta : TE} {fa : Env → G → Res D} {ns : List String} (hn : ∀ n ∈ ns, n ∈ tyNames) (hl : ns.length ≤ 16) (ha : SE K cls W ta fa) : SE K cls W (tCB (rIsiT K) (tCons ta (tCons (tTup (tTys ns)) tNil))) (f1 (dIsi ns) fa) := fun m F g H env os σ Q rl h =>
  ha m F g H env os σ _ rl (h.bind fun a g1 x m1 F1 H1 s1 w1 r1 h1 => by
    have hlen : (ns.map V.ty).length ≤ sizeLine := by
      rw [List.length_map]
      exact Nat.le_trans hl (by decide)
    refine ⟨hlen, fun p hp => ?_⟩
    unfold dIsi at h1
    cases e : tyD g1 a with
    | none => simp only [e] at h1; exact h1.elim
    | some t =>
      simp only [e] at h1
      obtain ⟨w2, s2⟩ := w1.new (o := .tup (ns.map V.ty)) hp
      have r2 := Rep.mono s2.grow _ _ r1
      obtain ⟨ty, hm⟩ := tyD_rep w2 r2 e
      exact ⟨x, p, _, _, _, _, rfl, upd_same, classes_of ns, ty, any_kit hm ns hn, h1 _ _ _ _ s2 w2 (.bl _)⟩)
end
end FL

namespace FL
open PySem PySem.Spec PyProof.Rows L2 FR

/-! ### statements -/
section
variable (K : PySem.W.Frag) (cls : Str → Addr) (W : WX)
/-- what is wanted behind a statement -/
def SatS (B : Base) (m0 : List Addr) (F0 : Hp) (D : Ends) : SRes → Prop
  | .next e g => ∀ m F H os σ, Grow m0 F0 m F → RlB K cls B m F g H e os σ → D.nx σ H
  | .brk e g => ∀ m F H os σ, Grow m0 F0 m F → RlB K cls B m F g H e os σ → D.bk σ H
  | .cnt e g => ∀ m F H os σ, Grow m0 F0 m F → RlB K cls B m F g H e os σ → D.ct σ H
  | .ret d g => ∀ v m F H, Step B m F g H → World K cls m F g H → Rep K cls m F v d → D.rt v H
  | .exc x e g => ∀ cl dx m F H os σ, Grow m0 F0 m F → RlB K cls B m F g H e os σ → ExnR K cls m F cl dx x → W cl dx σ H
  | .stuck => False
def SS (t : TS) (f : Env → G → SRes) : Prop := ∀ (B : Base) (D : Ends) m F g H env os σ, RlB K cls B m F g H env os σ → SatS K cls W B m F D (f env g) → t D σ H
/-- a target -/
def SG (ix : List Nat) (t : TG) (f : D → G → Env → Option Env) : Prop := ∀ m F g H env os σ v d (Q : L2.St → Hp → Prop), Rl K cls m F g H env os σ → Rep K cls m F v d →
  (match f d g env with
    | some env' => ∀ m' F' H' os' σ', Step ⟨m, F, g, H⟩ m' F' g H' → Rl K cls m' F' g H' env' os' σ' → (∀ j l, os' j = some l → os j = some l) → σ'.length = σ.length ∧ (∀ j, j ∉ ix → σ'[j]? = σ[j]?) → Q σ' H'
    | none => False) → t v σ H Q
def SGs (ix : List Nat) (t : TGs) (f : List D → G → Env → Option Env) : Prop := ∀ m F g H env os σ vs ds (Q : L2.St → Hp → Prop), Rl K cls m F g H env os σ → RepL K cls m F vs ds →
  (match f ds g env with
    | some env' => ∀ m' F' H' os' σ', Step ⟨m, F, g, H⟩ m' F' g H' → Rl K cls m' F' g H' env' os' σ' → (∀ j l, os' j = some l → os j = some l) → σ'.length = σ.length ∧ (∀ j, j ∉ ix → σ'[j]? = σ[j]?) → Q σ' H'
    | none => False) → t vs σ H Q
/-- what a for walks, over data that stays -/
def WalkD (J : It) (ds : List D) (m : List Addr) (F : Hp) : Prop := ∃ (Gd : Hp → Prop) (Y : Nat → Hp → V → Hp → Prop), Walk J ds.length Gd Y ∧
  (∀ m2 F2 g2 H2, Grow m F m2 F2 → World K cls m2 F2 g2 H2 → Gd H2) ∧
  ∀ i m2 F2 g2 H2 x H3, i < ds.length → Grow m F m2 F2 → World K cls m2 F2 g2 H2 → Y i H2 x H3 →
    ∃ F3, Step ⟨m2, F2, g2, H2⟩ m2 F3 g2 H3 ∧ World K cls m2 F3 g2 H3 ∧ ∃ d, ds[i]? = some d ∧ Rep K cls m2 F3 x d
def SI (t : TI) (f : Env → G → Res (List D)) : Prop := ∀ m F g H env os σ (R : It → Hp → Prop), Rl K cls m F g H env os σ → Sat K cls W σ (fun m F (J : It) ds => WalkD K cls J ds m F) ⟨m, F, g, H⟩ (f env g) R → t σ H R
end
section
variable (cls : Str → Addr) (X : Cx) (W : WX)
structure FS (st : Stmt) (t : TS) (f : Env → G → SRes) : Prop where
  p : PS X st t
  s : SS X.K cls W t f
structure FSs (sts : List Stmt) (t : TS) (f : Env → G → SRes) : Prop where
  p : PSs X sts t
  s : SS X.K cls W t f
end
def eS (env : Env) (r : Res D) (k : D → G → SRes) : SRes := match r with
  | .ok d g => k d g
  | .exc x g => .exc x env g
  | .stuck => .stuck
def fNext : Env → G → SRes := .next
def fSeq (f1 f2 : Env → G → SRes) : Env → G → SRes := fun env g => match f1 env g with
  | .next e g1 => f2 e g1
  | r => r
def fRet (fa : Env → G → Res D) : Env → G → SRes := fun env g => eS env (fa env g) .ret
def fRetN : Env → G → SRes := fun _ g => .ret .non g
def fExpr (fa : Env → G → Res D) : Env → G → SRes := fun env g => eS env (fa env g) fun _ g1 => .next env g1
def tgS (o : Option Env) (g : G) : SRes := match o with
  | some e => .next e g
  | none => .stuck
def fAsg (fa : Env → G → Res D) (ft : D → G → Env → Option Env) : Env → G → SRes := fun env g => eS env (fa env g) fun d g1 => tgS (ft d g1 env) g1
def fIfS (fc : Env → G → Res Bool) (f1 f2 : Env → G → SRes) : Env → G → SRes := fun env g => match fc env g with
  | .ok c g1 => if c = true then f1 env g1 else f2 env g1
  | .exc x g1 => .exc x env g1
  | .stuck => .stuck
/-- set the i-th slot -/
def gSet (i : Nat) : D → G → Env → Option Env := fun d _ env => match env[i]? with
  | some _ => some (env.set i (.val d))
  | none => none
def gNils : List D → G → Env → Option Env
  | [], _, env => some env
  | _ :: _, _, _ => none
def gConss (f : D → G → Env → Option Env) (r : List D → G → Env → Option Env) : List D → G → Env → Option Env
  | [], _, _ => none
  | d :: ds, g, env => (f d g env).bind (r ds g)
def gTupF (f : List D → G → Env → Option Env) (n : Nat) : D → G → Env → Option Env
  | .tup ds, g, env => if ds.length = n then f ds g env else none
  | _, _, _ => none
def loopF (ft : D → G → Env → Option Env) (fb : Env → G → SRes) : List D → Env → G → SRes
  | [], env, g => .next env g
  | d :: ds, env, g => match ft d g env with
    | none => .stuck
    | some env1 => match fb env1 g with
      | .next e g1 => loopF ft fb ds e g1
      | .cnt e g1 => loopF ft fb ds e g1
      | .brk e g1 => .next e g1
      | .ret d g1 => .ret d g1
      | .exc x e g1 => .exc x e g1
      | .stuck => .stuck
def fFor (fi : Env → G → Res (List D)) (ft : D → G → Env → Option Env) (fb : Env → G → SRes) : Env → G → SRes := fun env g => match fi env g with
  | .ok ds g1 => loopF ft fb ds env g1
  | .exc x g1 => .exc x env g1
  | .stuck => .stuck
/-- a while of at most n turns -/
def whileF (fc : Env → G → Res Bool) (fb : Env → G → SRes) : Nat → Env → G → SRes
  | 0, _, _ => .stuck
  | n + 1, env, g => match fc env g with
    | .ok true g1 => match fb env g1 with
      | .next e g2 => whileF fc fb n e g2
      | .cnt e g2 => whileF fc fb n e g2
      | .brk e g2 => .next e g2
      | .ret d g2 => .ret d g2
      | .exc x e g2 => .exc x e g2
      | .stuck => .stuck
    | .ok false g1 => .next env g1
    | .exc x g1 => .exc x env g1
    | .stuck => .stuck

section
variable {K : PySem.W.Frag} {cls : Str → Addr} {W : WX} {ta te : TE} {fa fe : Env → G → Res D} {t u : TS} {f1 f2 : Env → G → SRes} {tt : TT} {p : Env → G → Res Bool}
theorem SatS.mono {B : Base} {m0 m1 : List Addr} {F0 F1 : Hp} {D : Ends} {r : SRes} (h : SatS K cls W B m0 F0 D r) (gr : Grow m0 F0 m1 F1) : SatS K cls W B m1 F1 D r := by
  cases r with
  | next e g => exact fun m F H os σ q => h m F H os σ (gr.trans q)
  | brk e g => exact fun m F H os σ q => h m F H os σ (gr.trans q)
  | cnt e g => exact fun m F H os σ q => h m F H os σ (gr.trans q)
  | ret d g => exact h
  | exc x e g => exact fun cl dx m F H os σ q => h cl dx m F H os σ (gr.trans q)
  | stuck => exact h
/-- from an expression's result to a statement's -/
theorem sat_e {B : Base} {m : List Addr} {F : Hp} {g : G} {H : Hp} {env : Env} {os : Nat → Option Addr} {σ : L2.St} {D : Ends} {r : Res FL.D} {k : FL.D → G → SRes} {Q : VK} (rl : RlB K cls B m F g H env os σ) (h : SatS K cls W B m F D (eS env r k))
    (hq : ∀ d g1 v m1 F1 H1, Step ⟨m, F, g, H⟩ m1 F1 g1 H1 → RlB K cls B m1 F1 g1 H1 env os σ → Rep K cls m1 F1 v d → SatS K cls W B m1 F1 D (k d g1) → Q v H1) : Sat K cls W σ (Rep K cls) ⟨m, F, g, H⟩ r Q := by
  cases r with
  | ok d g1 => exact fun v m1 F1 H1 s w q => hq d g1 v m1 F1 H1 s (rl.step s w) q (SatS.mono (show SatS K cls W B m F D (k d g1) from h) s.grow)
  | exc x g1 => exact fun cl dx m1 F1 H1 s w q => h cl dx m1 F1 H1 os σ s.grow (rl.step s w) q
  | stuck => exact h
theorem ss_next : SS K cls W tNext fNext := fun B D m F g H env os σ rl h => h m F H os σ (Grow.refl _ _) rl
theorem ss_seq (h1 : SS K cls W t f1) (h2 : SS K cls W u f2) : SS K cls W (tSeq t u) (fSeq f1 f2) := fun B D m F g H env os σ rl h => by
  refine h1 B { D with nx := u D } m F g H env os σ rl ?_
  unfold fSeq at h
  cases e : f1 env g with
  | next e1 g1 =>
    simp only [e] at h
    exact fun m1 F1 H1 os1 σ1 gr r1 => h2 B D m1 F1 g1 H1 e1 os1 σ1 r1 (h.mono gr)
  | brk e1 g1 => simp only [e] at h; exact h
  | cnt e1 g1 => simp only [e] at h; exact h
  | ret d g1 => simp only [e] at h; exact h
  | exc x e1 g1 => simp only [e] at h; exact h
  | stuck => simp only [e] at h; exact h
theorem ss_ret (ha : SE K cls W ta fa) : SS K cls W (tRet ta) (fRet fa) := fun B D m F g H env os σ rl h =>
  ha m F g H env os σ _ rl.r (sat_e rl h fun d g1 v m1 F1 H1 s r1 q h1 => h1 v m1 F1 H1 r1.st r1.r.w q)
theorem ss_retN : SS K cls W tRetN fRetN := fun B D m F g H env os σ rl h => h .non m F H rl.st rl.r.w .non
theorem ss_expr (ha : SE K cls W ta fa) : SS K cls W (tDrop ta) (fExpr fa) := fun B D m F g H env os σ rl h =>
  ha m F g H env os σ _ rl.r (sat_e rl h fun d g1 v m1 F1 H1 s r1 q h1 => h1 m1 F1 H1 os σ (Grow.refl _ _) r1)
theorem ss_asg {tg : TG} {ft : FL.D → G → Env → Option Env} {ix : List Nat} (ha : SE K cls W ta fa) (hg : SG K cls ix tg ft) : SS K cls W (tAsg ta tg) (fAsg fa ft) := fun B D m F g H env os σ rl h =>
  ha m F g H env os σ _ rl.r (sat_e rl h fun d g1 v m1 F1 H1 s r1 q h1 => by
    refine hg m1 F1 g1 H1 env os σ v d _ r1.r q ?_
    cases e : ft d g1 env with
    | none => simp only [e, tgS] at h1; exact h1.elim
    | some env' =>
      simp only [e, tgS] at h1
      exact fun m2 F2 H2 os' σ' s2 r2 ho _ => h1 m2 F2 H2 os' σ' s2.grow ⟨r2, r1.st.trans s2, fun i l e => r1.own i l (ho i l e)⟩)
theorem ss_if (hc : ST K cls W tt p) (h1 : SS K cls W t f1) (h2 : SS K cls W u f2) : SS K cls W (tIfS tt t u) (fIfS p f1 f2) := fun B D m F g H env os σ rl h => by
  refine hc m F g H env os σ _ rl.r ?_
  unfold fIfS at h
  cases e : p env g with
  | ok c g1 =>
    simp only [e] at h
    intro b m1 F1 H1 s w q
    subst q
    have r1 := rl.step s w
    cases b with
    | true => exact h1 B D m1 F1 g1 H1 env os σ r1 (SatS.mono h s.grow)
    | false => exact h2 B D m1 F1 g1 H1 env os σ r1 (SatS.mono h s.grow)
  | exc x g1 =>
    simp only [e] at h
    exact fun cl dx m1 F1 H1 s w q => h cl dx m1 F1 H1 os σ s.grow (rl.step s w) q
  | stuck => simp only [e] at h; exact h.elim
/-! targets -/
theorem Rl.set {m : List Addr} {F : Hp} {g : G} {H : Hp} {env : Env} {os : Nat → Option Addr} {σ : L2.St} {v : V} {d : FL.D} {i : Nat} (r : Rl K cls m F g H env os σ) (q : Rep K cls m F v d) (hi : i < env.length) :
    Rl K cls m F g H (env.set i (.val d)) (fun j => if j = i then none else os j) (σ.set i (some v)) := by
  refine ⟨r.w, fun j s e => ?_, by simpa using r.len, fun j l e => ?_, fun a b l e1 e2 => ?_⟩
  · by_cases hj : j = i
    · subst hj
      rw [List.getElem?_set_self hi] at e
      cases e
      exact ⟨if_pos rfl, v, List.getElem?_set_self (by rw [r.len]; exact hi), q⟩
    · rw [List.getElem?_set_ne (Ne.symm hj)] at e
      have h := r.sl j s e
      have hs : (σ.set i (some v))[j]? = σ[j]? := List.getElem?_set_ne (Ne.symm hj)
      cases s with
      | un => exact (if_neg hj).trans h
      | val d' =>
        obtain ⟨o, w, h1, h2⟩ := h
        exact ⟨(if_neg hj).trans o, w, hs.trans h1, h2⟩
      | lst ds =>
        obtain ⟨l, xs, h1, h2, h3, h4⟩ := h
        exact ⟨l, xs, (if_neg hj).trans h1, hs.trans h2, h3, h4⟩
      | dct ds =>
        obtain ⟨l, xs, h1, h2, h3, h4⟩ := h
        exact ⟨l, xs, (if_neg hj).trans h1, hs.trans h2, h3, h4⟩
  · have e' : (if j = i then none else os j) = some l := e
    split at e'
    · cases e'
    · obtain ⟨h1, h2, h3, h4⟩ := r.own j l e'
      exact ⟨h1, h2, h3, by simpa using h4⟩
  · have e1' : (if a = i then none else os a) = some l := e1
    have e2' : (if b = i then none else os b) = some l := e2
    split at e1'
    · cases e1'
    · split at e2'
      · cases e2'
      · exact r.inj a b l e1' e2'
theorem sg_name (i : Nat) : SG K cls [i] (gName i) (gSet i) := fun m F g H env os σ v d Q rl q h => by
  unfold gSet at h
  cases e : env[i]? with
  | none => simp only [e] at h
  | some s =>
    simp only [e] at h
    refine h m F H _ _ (Step.refl _ _ _ _) (rl.set q (List.getElem?_eq_some_iff.mp e).1) (fun j l e => ?_) ⟨by simp, fun j hj => List.getElem?_set_ne (fun z => hj (by simp [z]))⟩
    have e' : (if j = i then none else os j) = some l := e
    split at e'
    · cases e'
    · exact e'
theorem sgs_nil : SGs K cls [] gNil gNils := fun m F g H env os σ vs ds Q rl q h => by
  cases ds with
  | nil =>
    cases q
    exact ⟨rfl, h m F H os σ (Step.refl _ _ _ _) rl (fun _ _ e => e) ⟨rfl, fun _ _ => rfl⟩⟩
  | cons d ds => exact h.elim
theorem sgs_cons {tg : TG} {tgs : TGs} {ft : FL.D → G → Env → Option Env} {fr : List FL.D → G → Env → Option Env} {ix jx : List Nat} (h1 : SG K cls ix tg ft) (h2 : SGs K cls jx tgs fr) : SGs K cls (ix ++ jx) (gCons tg tgs) (gConss ft fr) := fun m F g H env os σ vs ds Q rl q h => by
  cases ds with
  | nil => exact h.elim
  | cons d ds =>
    cases q with
    | cons q1 q2 =>
      refine ⟨_, _, rfl, h1 m F g H env os σ _ d _ rl q1 ?_⟩
      simp only [gConss] at h
      cases e : ft d g env with
      | none => simp only [e, Option.bind_none] at h
      | some env1 =>
        simp only [e, Option.bind_some] at h
        intro m1 F1 H1 os1 σ1 s1 r1 ho hc
        refine h2 m1 F1 g H1 env1 os1 σ1 _ ds _ r1 (RepL.mono s1.grow _ _ q2) ?_
        cases e2 : fr ds g env1 with
        | none => simp only [e2] at h
        | some env2 =>
          simp only [e2] at h
          exact fun m2 F2 H2 os2 σ2 s2 r2 ho2 hc2 => h m2 F2 H2 os2 σ2 (s1.trans s2) r2 (fun j l e => ho j l (ho2 j l e)) ⟨hc2.1.trans hc.1, fun j hj => (hc2.2 j fun z => hj (List.mem_append_right _ z)).trans (hc.2 j fun z => hj (List.mem_append_left _ z))⟩
theorem sg_tup {n : Nat} {tgs : TGs} {fr : List FL.D → G → Env → Option Env} {ix : List Nat} (h1 : SGs K cls ix tgs fr) : SG K cls ix (gTup K n tgs) (gTupF fr n) := fun m F g H env os σ v d Q rl q h => by
  cases d <;> first | exact h.elim | skip
  cases q with
  | tup a b =>
    simp only [gTupF] at h
    split at h
    · rename_i envx e
      split at e
      · rename_i hl
        refine ⟨_, _, rfl, sqT_mono rl.w.fe a, by rw [b.length]; exact hl, h1 m F g H env os σ _ _ Q rl b ?_⟩
        rw [e]
        exact h
      · cases e
    · exact h.elim
/-! what is walked -/
theorem walkD_items {J : It} {xs : List V} {ds : List FL.D} {m : List Addr} {F : Hp} {Gd : Hp → Prop} (w : Walk J xs.length Gd (YAt xs)) (hG : ∀ m2 F2 g2 H2, Grow m F m2 F2 → World K cls m2 F2 g2 H2 → Gd H2) (r : RepL K cls m F xs ds) : WalkD K cls J ds m F := by
  refine ⟨Gd, YAt xs, by rw [← r.length]; exact w, hG, fun i m2 F2 g2 H2 x H3 hi gr w2 y => ?_⟩
  obtain ⟨rfl, e⟩ := y
  have hd : ds[i]? = some ds[i] := by simp [hi]
  obtain ⟨v, h1, h2⟩ := r.get hd
  rw [e] at h1
  cases h1
  exact ⟨F2, Step.refl _ _ _ _, w2, _, hd, Rep.mono gr _ _ h2⟩
def fList (fa : Env → G → Res FL.D) : Env → G → Res (List FL.D) := fun env g => (fa env g).bind fun d g1 => match d with
  | .lst xs => .ok xs g1
  | .scr ns => .ok (ns.map FL.D.int) g1
  | _ => .stuck
def fTupl (fa : Env → G → Res FL.D) : Env → G → Res (List FL.D) := fun env g => (fa env g).bind fun d g1 => match d with
  | .tup xs => .ok xs g1
  | _ => .stuck
theorem si_list (ha : SE K cls W ta fa) : SI K cls W (iList K ta) (fList fa) := fun m F g H env os σ R rl h =>
  ha m F g H env os σ _ rl (h.bind fun d g1 v m1 F1 H1 s1 w1 q h1 => by
    cases d <;> first | exact h1.elim | skip
    · cases q with
      | lst a b =>
        refine ⟨_, rfl, ⟨_, SqL.of (w1.fe _ _ a)⟩, h1.here w1 (walkD_items (xs := _) walk_list (fun m2 F2 g2 H2 gr w2 => SqL.of (w2.fe _ _ (gr.F _ _ a))) b)⟩
    · obtain ⟨p, xs, rfl, hs, rr⟩ := seq_rep2 w1 q rfl
      rename_i ns
      cases q with
      | scr a =>
        have hr : ∀ l : List Int, RepL K cls m1 F1 (l.map V.int) (l.map FL.D.int) := fun l => by
          induction l with
          | nil => exact .nil
          | cons x l ih => exact .cons (.int x) ih
        exact ⟨_, rfl, ⟨_, sqL_mono w1.fe a⟩, h1.here w1 (walkD_items walk_list (fun m2 F2 g2 H2 gr w2 => sqL_mono (fun x o e => w2.fe _ _ (gr.F _ _ e)) a) (hr ns))⟩)
theorem si_tup (ha : SE K cls W ta fa) : SI K cls W (iTup K ta) (fTupl fa) := fun m F g H env os σ R rl h =>
  ha m F g H env os σ _ rl (h.bind fun d g1 v m1 F1 H1 s1 w1 q h1 => by
    cases d <;> first | exact h1.elim | skip
    cases q with
    | tup a b => exact ⟨_, rfl, ⟨_, sqT_mono w1.fe a⟩, h1.here w1 (walkD_items walk_tup (fun m2 F2 g2 H2 gr w2 => sqT_mono (fun x o e => w2.fe _ _ (gr.F _ _ e)) a) b)⟩)
def rangeD (lo : Int) (n : Nat) : List FL.D := (List.range n).map fun i => FL.D.int (lo + (i : Nat))
/-- an end of a range that the machine takes (closed: it is not to be run on an open number) -/
@[irreducible] def inR (j : Int) : Bool := decide (-(2 ^ 62) ≤ j ∧ j < 2 ^ 62)
theorem inR_iff {j : Int} : inR j = true ↔ (-(2 ^ 62) ≤ j ∧ j < 2 ^ 62) := by unfold inR; exact decide_eq_true_iff
def fRange1 (fa : Env → G → Res (List FL.D)) : Env → G → Res (List FL.D) := fun env g => (fa env g).bind fun ds g1 => match ds with
  | [.int j] => if inR j = true then .ok (rangeD 0 j.toNat) g1 else .stuck
  | _ => .stuck
def fRange2 (fa : Env → G → Res (List FL.D)) : Env → G → Res (List FL.D) := fun env g => (fa env g).bind fun ds g1 => match ds with
  | [.int i, .int j] => if inR i = true ∧ inR j = true then .ok (rangeD i (j - i).toNat) g1 else .stuck
  | _ => .stuck
theorem walkD_range {lo : Int} {n : Nat} {m : List Addr} {F : Hp} : WalkD K cls (Itr lo n) (rangeD lo n) m F := by
  have hl : (rangeD lo n).length = n := by unfold rangeD; rw [List.length_map, List.length_range]
  refine ⟨_, _, by rw [hl]; exact walk_range, fun _ _ _ _ _ _ => trivial, fun i m2 F2 g2 H2 x H3 hi gr w2 y => ?_⟩
  obtain ⟨rfl, rfl⟩ := y
  rw [hl] at hi
  refine ⟨F2, Step.refl _ _ _ _, w2, .int (lo + i), ?_, .int _⟩
  unfold rangeD
  rw [List.getElem?_map, List.getElem?_range hi]
  rfl
theorem si_range1 {tA : TA} {gA : Env → G → Res (List FL.D)} (ha : SA K cls W tA gA) : SI K cls W (iRng1 tA) (fRange1 gA) := fun m F g H env os σ R rl h =>
  ha m F g H env os σ _ rl (h.bind fun ds g1 vs m1 F1 H1 s1 w1 q h1 => by
    split at h1
    · obtain ⟨x, rfl, r0⟩ := repL1 q
      cases r0
      split at h1
      · rename_i hb
        have hb := inR_iff.mp hb
        exact ⟨_, rfl, hb.1, hb.2, h1.here w1 walkD_range⟩
      · exact h1.elim
    · exact h1.elim)
theorem si_range2 {tA : TA} {gA : Env → G → Res (List FL.D)} (ha : SA K cls W tA gA) : SI K cls W (iRng2 tA) (fRange2 gA) := fun m F g H env os σ R rl h =>
  ha m F g H env os σ _ rl (h.bind fun ds g1 vs m1 F1 H1 s1 w1 q h1 => by
    split at h1
    · obtain ⟨x, y, rfl, r0, r2⟩ := repL2 q
      cases r0; cases r2
      split at h1
      · rename_i hb
        obtain ⟨b1, b2⟩ := inR_iff.mp hb.1
        obtain ⟨b3, b4⟩ := inR_iff.mp hb.2
        exact ⟨_, _, rfl, ⟨b1, b2, b3, b4⟩, h1.here w1 walkD_range⟩
      · exact h1.elim
    · exact h1.elim)
/-! loops -/
theorem ss_for {wi : TI} {fi : Env → G → Res (List FL.D)} {tg : TG} {ft : FL.D → G → Env → Option Env} {tb : TS} {fb : Env → G → SRes} {ix : List Nat} (hi : SI K cls W wi fi) (hg : SG K cls ix tg ft) (hb : SS K cls W tb fb) : SS K cls W (tFor wi tg tb) (fFor fi ft fb) := fun B D m F g H env os σ rl h => by
  refine hi m F g H env os σ _ rl.r ?_
  unfold fFor at h
  cases e : fi env g with
  | stuck => simp only [e] at h; exact h.elim
  | exc x g1 => simp only [e] at h; exact fun cl dx m1 F1 H1 s w q => h cl dx m1 F1 H1 os σ s.grow (rl.step s w) q
  | ok ds g1 =>
    simp only [e] at h
    intro J m1 F1 H1 s w q
    obtain ⟨Gd, Y, wk, hG, hY⟩ := q
    have r1 := rl.step s w
    refine for_it wk (fun i σ' H' => ∃ m2 F2 g2 env2 os2, Grow m1 F1 m2 F2 ∧ RlB K cls B m2 F2 g2 H' env2 os2 σ' ∧ SatS K cls W B m2 F2 D (loopF ft fb (ds.drop i) env2 g2)) ?_ ?_ ?_ ?_
    · exact ⟨m1, F1, g1, env, os, Grow.refl _ _, r1, SatS.mono h s.grow⟩
    · rintro i σ' H' _ ⟨m2, F2, g2, env2, os2, gr, r2, _⟩
      exact hG m2 F2 g2 H' gr r2.r.w
    · rintro i x σ' H2 H3 hi' ⟨m2, F2, g2, env2, os2, gr, r2, h2⟩ y
      obtain ⟨F3, s3, w3, d, hd, q⟩ := hY i m2 F2 g2 H2 x H3 hi' gr r2.r.w y
      have r3 := r2.step s3 w3
      have hdrop : ds.drop i = d :: ds.drop (i + 1) := by
        rw [List.drop_eq_getElem_cons hi']
        have : ds[i] = d := by
          have := List.getElem?_eq_getElem hi'
          rw [this] at hd
          exact Option.some.inj hd
        rw [this]
      rw [hdrop] at h2
      simp only [loopF] at h2
      refine hg m2 F3 g2 H3 env2 os2 σ' x d _ r3.r q ?_
      cases e1 : ft d g2 env2 with
      | none => simp only [e1] at h2; exact h2.elim
      | some env3 =>
        simp only [e1] at h2
        intro m3 F3' H3' os3 σ3 s3' r4 ho _
        have r5 : RlB K cls B m3 F3' g2 H3' env3 os3 σ3 := ⟨r4, r3.st.trans s3', fun i l e => r3.own i l (ho i l e)⟩
        have s4 := s3.trans s3'
        refine hb B _ m3 F3' g2 H3' env3 os3 σ3 r5 ?_
        have h3 := h2
        cases e2 : fb env3 g2 with
        | next e4 g4 => simp only [e2] at h3; exact fun m4 F4 H4 os4 σ4 gr4 r6 => ⟨m4, F4, g4, e4, os4, (gr.trans s4.grow).trans gr4, r6, SatS.mono h3 (s4.grow.trans gr4)⟩
        | cnt e4 g4 => simp only [e2] at h3; exact fun m4 F4 H4 os4 σ4 gr4 r6 => ⟨m4, F4, g4, e4, os4, (gr.trans s4.grow).trans gr4, r6, SatS.mono h3 (s4.grow.trans gr4)⟩
        | brk e4 g4 => simp only [e2] at h3; exact fun m4 F4 H4 os4 σ4 gr4 r6 => h3 m4 F4 H4 os4 σ4 (s4.grow.trans gr4) r6
        | ret d4 g4 => simp only [e2] at h3; exact h3
        | exc x4 e4 g4 => simp only [e2] at h3; exact SatS.mono (r := .exc x4 e4 g4) h3 s4.grow
        | stuck => simp only [e2] at h3; exact h3.elim
    · rintro σ' H' ⟨m2, F2, g2, env2, os2, gr, r2, h2⟩
      rw [List.drop_length] at h2
      exact h2 m2 F2 H' os2 σ' (Grow.refl _ _) r2
end
end FL

namespace FL
open PySem PySem.Spec PyProof.Rows L2 FR

/-! ### comprehensions -/
def wipeE (env : Env) : List Nat → Env
  | [] => env
  | v :: vs => (wipeE env vs).set v .un
def compF (ft : D → G → Env → Option Env) (fif : Env → G → Res Bool) (fe : Env → G → Res D) (env : Env) : List D → G → Res (List D)
  | [], g => .ok [] g
  | d :: ds, g => match ft d g env with
    | none => .stuck
    | some env1 => match fif env1 g with
      | .ok true g1 => match fe env1 g1 with
        | .ok y g2 => match compF ft fif fe env ds g2 with
          | .ok ys g3 => .ok (y :: ys) g3
          | _ => .stuck
        | _ => .stuck
      | .ok false g1 => compF ft fif fe env ds g1
      | _ => .stuck
def fLc (fi : Env → G → Res (List D)) (ft : D → G → Env → Option Env) (fif : Env → G → Res Bool) (fe : Env → G → Res D) (vs : List Nat) : Env → G → Res D := fun env g => (fi env g).bind fun ds g1 =>
  if ds.length ≤ sizeLine then (match compF ft fif fe (wipeE env vs) ds g1 with
    | .ok ys g2 => .ok (.lst ys) g2
    | _ => .stuck) else .stuck
def fYes : Env → G → Res Bool := fun _ g => .ok true g
abbrev W0 : WX := fun _ _ _ _ => False
section
variable {K : PySem.W.Frag} {cls : Str → Addr} {W : WX} {m : List Addr} {F : Hp} {g : G} {H : Hp} {env : Env} {os : Nat → Option Addr} {σ : L2.St}
theorem wipeE_length (env : Env) : ∀ vs, (wipeE env vs).length = env.length
  | [] => rfl
  | v :: vs => by unfold wipeE; rw [List.length_set, wipeE_length env vs]
theorem wipeE_get {i : Nat} {s : Sl} : ∀ {vs : List Nat}, (wipeE env vs)[i]? = some s → (i ∈ vs ∧ s = .un) ∨ (i ∉ vs ∧ env[i]? = some s)
  | [], h => .inr ⟨by simp, h⟩
  | v :: vs, h => by
    unfold wipeE at h
    by_cases hi : v = i
    · subst hi
      by_cases hv : v < (wipeE env vs).length
      · rw [List.getElem?_set_self hv] at h; cases h; exact .inl ⟨List.mem_cons_self, rfl⟩
      · rw [List.getElem?_eq_none (by simpa using hv)] at h; cases h
    · rw [List.getElem?_set_ne hi] at h
      rcases wipeE_get h with ⟨h1, h2⟩ | ⟨h1, h2⟩
      · exact .inl ⟨List.mem_cons_of_mem _ h1, h2⟩
      · exact .inr ⟨by simp only [List.mem_cons, not_or]; exact ⟨fun e => hi e.symm, h1⟩, h2⟩
theorem wipe_out {i : Nat} : ∀ {vs : List Nat}, i ∉ vs → (wipe σ vs)[i]? = σ[i]?
  | [], _ => rfl
  | v :: vs, h => by
    simp only [List.mem_cons, not_or] at h
    unfold wipe
    rw [List.getElem?_set_ne (Ne.symm h.1), wipe_out h.2]
theorem wipe_in {i : Nat} : ∀ {vs : List Nat}, i ∈ vs → i < σ.length → (wipe σ vs)[i]? = some none
  | v :: vs, h, hl => by
    unfold wipe
    by_cases e : v = i
    · subst e
      exact List.getElem?_set_self (by rw [wipe_length]; exact hl)
    · rw [List.getElem?_set_ne e]
      exact wipe_in ((List.mem_cons.mp h).resolve_left (Ne.symm e)) hl
theorem wipe_eq {σ2 : L2.St} {vs : List Nat} (hl : σ2.length = σ.length) (h : ∀ j, j ∉ vs → σ2[j]? = (wipe σ vs)[j]?) : wipe σ2 vs = wipe σ vs := by
  apply List.ext_getElem?
  intro i
  by_cases hi : i ∈ vs
  · by_cases h2 : i < σ.length
    · rw [wipe_in hi h2, wipe_in hi (by rw [hl]; exact h2)]
    · rw [List.getElem?_eq_none (by rw [wipe_length, hl]; omega), List.getElem?_eq_none (by rw [wipe_length]; omega)]
  · rw [wipe_out hi, h i hi]
theorem Rl.wipe (r : Rl K cls m F g H env os σ) (vs : List Nat) : Rl K cls m F g H (wipeE env vs) (fun j => if j ∈ vs then none else os j) (wipe σ vs) := by
  refine ⟨r.w, fun i s e => ?_, by rw [wipe_length, wipeE_length]; exact r.len, fun i l e => ?_, fun i j l e1 e2 => ?_⟩
  · rcases wipeE_get e with ⟨h1, rfl⟩ | ⟨h1, h2⟩
    · exact if_pos h1
    · have h := r.sl i s h2
      have hs : (L2.wipe σ vs)[i]? = σ[i]? := wipe_out h1
      cases s with
      | un => exact (if_neg h1).trans h
      | val d' =>
        obtain ⟨o, w, h3, h4⟩ := h
        exact ⟨(if_neg h1).trans o, w, hs.trans h3, h4⟩
      | lst ds =>
        obtain ⟨l, xs, h3, h4, h5, h6⟩ := h
        exact ⟨l, xs, (if_neg h1).trans h3, hs.trans h4, h5, h6⟩
      | dct ds =>
        obtain ⟨l, xs, h3, h4, h5, h6⟩ := h
        exact ⟨l, xs, (if_neg h1).trans h3, hs.trans h4, h5, h6⟩
  · have e' : (if i ∈ vs then none else os i) = some l := e
    split at e'
    · cases e'
    · obtain ⟨h1, h2, h3, h4⟩ := r.own i l e'
      exact ⟨h1, h2, h3, by rw [wipeE_length]; exact h4⟩
  · have e1' : (if i ∈ vs then none else os i) = some l := e1
    have e2' : (if j ∈ vs then none else os j) = some l := e2
    split at e1'
    · cases e1'
    · split at e2'
      · cases e2'
      · exact r.inj i j l e1' e2'
/-- a new object that is still written -/
theorem Step.wr {B : Base} {p : Addr} {o : HO} (s : Step B m F g H) (hp : B.H p = none) : Step B m F g (upd H p o) :=
  ⟨s.grow, fun a u e l => by rw [upd_ne (ne_of_none e hp)]; exact s.fr a u e l, s.nF, s.nL, fun a h => s.tr a (up_none h)⟩
theorem World.wr {p : Addr} {o : HO} (w : World K cls m F g H) (hF : F p = none) (hl : ¬ LiveAt m g p) : World K cls m F g (upd H p o) := by
  refine ⟨w.len, fun n c a h1 h2 => ?_, w.nf, w.inj, fun a u e => ?_⟩
  · by_cases hc : c = .dead
    · subst hc; trivial
    · have ne : a ≠ p := fun z => hl (by subst z; exact ⟨n, c, h1, hc, h2⟩)
      exact CellR.mono (Grow.refl _ _) (upd_ne ne) (w.at_ n c a h1 h2)
  · rw [upd_ne (ne_of_none e hF)]
    exact w.fe a u e
theorem World.freeze {p : Addr} {o : HO} (w : World K cls m F g H) (hF : F p = none) (hl : ¬ LiveAt m g p) (e : H p = some o) : World K cls m (upd F p o) g H := by
  refine ⟨w.len, fun n c a h1 h2 => ?_, fun n c a h1 h2 h3 => ?_, w.inj, fun a u e1 => ?_⟩
  · exact CellR.mono (grow_new hF) rfl (w.at_ n c a h1 h2)
  · have ne : a ≠ p := fun z => hl (by subst z; exact ⟨n, c, h1, h2, h3⟩)
    rw [upd_ne ne]
    exact w.nf n c a h1 h2 h3
  · by_cases z : a = p
    · subst z
      rw [upd_same] at e1
      rw [e]
      exact e1
    · rw [upd_ne z] at e1
      exact w.fe a u e1
theorem Step.freeze {B : Base} {p : Addr} {o : HO} (s : Step B m F g H) (hF : F p = none) (hp : B.H p = none) : Step B m (upd F p o) g H :=
  ⟨s.grow.trans (grow_new hF), s.fr, fun a h q => by
    by_cases z : a = p
    · subst z; exact .inl hp
    · rw [upd_ne z] at h; exact s.nF a h q, s.nL, s.tr⟩
/-- a list that was made and is known to nobody else: from here on a cell -/
theorem World.adopt {p : Addr} {c : Cell} (w : World K cls m F g H) (hF : F p = none) (hl : ¬ LiveAt m g p) (hd : c ≠ .dead) (hc : CellR K cls (m ++ [p]) F H p c) : World K cls (m ++ [p]) F (g ++ [c]) H := by
  have gr : Grow m F (m ++ [p]) F := ⟨fun n a h => by rw [List.getElem?_append_left (List.getElem?_eq_some_iff.mp h).1]; exact h, fun _ _ h => h⟩
  have spl : ∀ (n : Nat) (e : Cell) (a : Addr), (g ++ [c])[n]? = some e → (m ++ [p])[n]? = some a → (g[n]? = some e ∧ m[n]? = some a) ∨ (n = g.length ∧ e = c ∧ a = p) := fun n e a h1 h2 => by
    have hl := w.len
    by_cases hn : n < g.length
    · rw [List.getElem?_append_left hn] at h1
      rw [List.getElem?_append_left (by omega)] at h2
      exact .inl ⟨h1, h2⟩
    · rw [List.getElem?_append_right (by omega)] at h1 h2
      obtain ⟨h3, h4⟩ := List.getElem?_eq_some_iff.mp h1
      obtain ⟨h5, h6⟩ := List.getElem?_eq_some_iff.mp h2
      simp at h3 h4 h6
      exact .inr ⟨by omega, h4.symm, h6.symm⟩
  refine ⟨by simp [w.len], fun n e a h1 h2 => ?_, fun n e a h1 h2 h3 => ?_, fun n n' e e' a h1 h2 h3 h4 h5 h6 => ?_, w.fe⟩
  · rcases spl n e a h1 h2 with ⟨h3, h4⟩ | ⟨_, rfl, rfl⟩
    · exact CellR.mono gr rfl (w.at_ n e a h3 h4)
    · exact hc
  · rcases spl n e a h1 h3 with ⟨h4, h5⟩ | ⟨_, rfl, rfl⟩
    · exact w.nf n e a h4 h2 h5
    · exact hF
  · rcases spl n e a h1 h5 with ⟨h7, h8⟩ | ⟨h7, _, rfl⟩
    · rcases spl n' e' a h3 h6 with ⟨h9, h10⟩ | ⟨h9, _, rfl⟩
      · exact w.inj n n' e e' a h7 h2 h9 h4 h8 h10
      · exact absurd ⟨n, e, h7, h2, h8⟩ hl
    · rcases spl n' e' a h3 h6 with ⟨h9, h10⟩ | ⟨h9, _, _⟩
      · exact absurd ⟨n', e', h9, h4, h10⟩ hl
      · rw [h7, h9]
theorem liveAt_adopt {p a : Addr} {c : Cell} (hl : m.length = g.length) (h : LiveAt (m ++ [p]) (g ++ [c]) a) : LiveAt m g a ∨ a = p := by
  obtain ⟨n, e, h1, h2, h3⟩ := h
  by_cases hn : n < g.length
  · rw [List.getElem?_append_left hn] at h1
    rw [List.getElem?_append_left (by omega)] at h3
    exact .inl ⟨n, e, h1, h2, h3⟩
  · rw [List.getElem?_append_right (by omega)] at h3
    obtain ⟨h5, h6⟩ := List.getElem?_eq_some_iff.mp h3
    simp at h5 h6
    exact .inr h6.symm
theorem Step.adopt {B : Base} {p : Addr} {c : Cell} (s : Step B m F g H) (w : m.length = g.length) (hp : B.H p = none) : Step B (m ++ [p]) F (g ++ [c]) H :=
  ⟨s.grow.trans ⟨fun n a h => by rw [List.getElem?_append_left (List.getElem?_eq_some_iff.mp h).1]; exact h, fun _ _ h => h⟩, s.fr, s.nF, fun a h => by
    rcases liveAt_adopt w h with z | rfl
    · exact s.nL a z
    · exact .inr hp, s.tr⟩
/-- a comprehension, its list handed on by out -/
def fLcG (out : List FL.D → G → Res FL.D) (fi : Env → G → Res (List FL.D)) (ft : FL.D → G → Env → Option Env) (fif : Env → G → Res Bool) (fe : Env → G → Res FL.D) (vs : List Nat) : Env → G → Res FL.D := fun env g => (fi env g).bind fun ds g1 =>
  if ds.length ≤ sizeLine then (match compF ft fif fe (wipeE env vs) ds g1 with
    | .ok ys g2 => out ys g2
    | _ => .stuck) else .stuck
theorem se_lcG (out : List FL.D → G → Res FL.D) (hout : ∀ (S : Base) m2 F2 g2 H' (D : Addr) acc zs (σ : L2.St) (Q : VK), S.H D = none → Step S m2 F2 g2 H' → World K cls m2 F2 g2 H' → H' D = some (.lst acc) → F2 D = none → ¬ LiveAt m2 g2 D → RepL K cls m2 F2 acc zs → Sat K cls W σ (Rep K cls) S (out zs g2) Q → Q (.ref D) H')
    {wi : TI} {fi : Env → G → Res (List FL.D)} {tg : TG} {ft : FL.D → G → Env → Option Env} {tt : TT} {fif : Env → G → Res Bool} {te : TE} {fe : Env → G → Res FL.D} {ix vs : List Nat} (hi : SI K cls W wi fi) (hg : SG K cls ix tg ft) (hif : ST K cls W0 tt fif) (he : SE K cls W0 te fe) (hx : ∀ j ∈ ix, j ∈ vs) :
    SE K cls W (tLc wi tg tt te vs) (fLcG out fi ft fif fe vs) := fun m F g H env os σ Q rl h =>
  hi m F g H env os σ _ rl (h.bind fun ds g1 J m1 F1 H1 s w q h1 => by
    split at h1
    · rename_i hlen
      obtain ⟨Gd, Y, wk, hG, hY⟩ := q
      intro D hD
      have rl1 := rl.step s w
      have nF : F1 D = none := w.hF hD
      have nL : ¬ LiveAt m1 g1 D := fun l => l.tracked w hD
      obtain ⟨zs, g3, e0, hS⟩ : ∃ zs g3, compF ft fif fe (wipeE env vs) ds g1 = .ok zs g3 ∧ Sat K cls W σ (Rep K cls) ⟨m1, F1, g1, H1⟩ (out zs g3) Q := by
        cases e : compF ft fif fe (wipeE env vs) ds g1 with
        | ok ys g3 =>
          simp only [e] at h1
          exact ⟨ys, g3, rfl, h1⟩
        | exc x g3 => simp only [e] at h1; exact h1.elim
        | stuck => simp only [e] at h1; exact h1.elim
      refine lc_it wk (fun i H' => ∃ m2 F2 g2 acc accD, Step ⟨m1, F1, g1, H1⟩ m2 F2 g2 H' ∧ World K cls m2 F2 g2 H' ∧ H' D = some (.lst acc) ∧ F2 D = none ∧ ¬ LiveAt m2 g2 D ∧ RepL K cls m2 F2 acc accD ∧ acc.length ≤ i ∧
        ∃ ys, compF ft fif fe (wipeE env vs) (ds.drop i) g2 = .ok ys g3 ∧ accD ++ ys = zs) ?_ ?_ ?_ ?_
      · have s0 : Step ⟨m1, F1, g1, H1⟩ m1 F1 g1 (upd H1 D (.lst [])) := (Step.refl _ _ _ _).wr hD
        exact ⟨m1, F1, g1, [], [], s0, w.wr nF nL, upd_same, nF, nL, .nil, Nat.le_refl _, zs, e0, rfl⟩
      · rintro i H' _ ⟨m2, F2, g2, _, _, s2, w2, _⟩
        exact hG m2 F2 g2 H' s2.grow w2
      · rintro i x H2 H3 hi' ⟨m2, F2, g2, acc, accD, s2, w2, hA, fA, lA, rA, hl, ys, e, hz⟩ y
        obtain ⟨F3, s3, w3, d, hd, qd⟩ := hY i m2 F2 g2 H2 x H3 hi' s2.grow w2 y
        have hdrop : ds.drop i = d :: ds.drop (i + 1) := by
          rw [List.drop_eq_getElem_cons hi']
          have : ds[i] = d := by
            have := List.getElem?_eq_getElem hi'
            rw [this] at hd
            exact Option.some.inj hd
          rw [this]
        rw [hdrop] at e
        simp only [compF] at e
        have s23 := s2.trans s3
        have rl3 := (rl1.step s23 w3).wipe vs
        have keepA : ∀ {m4 F4 g4 H4}, Step ⟨m2, F3, g2, H3⟩ m4 F4 g4 H4 → H4 D = some (.lst acc) ∧ F4 D = none ∧ ¬ LiveAt m4 g4 D := fun {m4 F4 g4 H4} s4 => by
          have hA3 : H3 D = some (.lst acc) := s3.fr D _ hA lA
          have fA3 : F3 D = none := by
            cases z : F3 D with
            | none => rfl
            | some u =>
              rcases s3.nF D (by rw [z]; exact fun y => by cases y) fA with y | y
              · have y' : H2 D = none := y
                rw [hA] at y'; cases y'
              · exact absurd y lA
          refine ⟨s4.fr D _ hA3 lA, ?_, fun z => ?_⟩
          · cases z : F4 D with
            | none => rfl
            | some u =>
              rcases s4.nF D (by rw [z]; exact fun y => by cases y) fA3 with y | y
              · have y' : H3 D = none := y
                rw [hA3] at y'; cases y'
              · exact absurd y lA
          · rcases s4.nL D z with y | y
            · exact lA y
            · have y' : H3 D = none := y
              rw [hA3] at y'; cases y'
        refine hg m2 F3 g2 H3 _ _ _ x d _ rl3 qd ?_
        cases e1 : ft d g2 (wipeE env vs) with
        | none => simp only [e1] at e; cases e
        | some env1 =>
          simp only [e1] at e
          intro m3' F3' H3' os4 σ4 s3' rl4 _ hc
          refine ⟨?_, ?_⟩
          · exact wipe_eq (by rw [hc.1, wipe_length]) fun j hj => hc.2 j fun z => hj (hx j z)
          · refine hif m3' F3' g2 H3' env1 os4 σ4 _ rl4 ?_
            cases e2 : fif env1 g2 with
            | exc x g4 => simp only [e2] at e; cases e
            | stuck => simp only [e2] at e; cases e
            | ok b g4 =>
              simp only [e2] at e
              intro b' m4 F4 H4 s40 w4 eb
              subst eb
              have s4 := s3'.trans s40
              cases b' with
              | true =>
                simp only at e
                rw [if_pos rfl]
                refine he m4 F4 g4 H4 env1 os4 σ4 _ (rl4.step s40 w4) ?_
                cases e3 : fe env1 g4 with
                | exc x g5 => simp only [e3] at e; cases e
                | stuck => simp only [e3] at e; cases e
                | ok yd g5 =>
                  simp only [e3] at e
                  intro v m5 F5 H5 s5 w5 q5
                  cases e4 : compF ft fif fe (wipeE env vs) (ds.drop (i + 1)) g5 with
                  | exc x g6 => simp only [e4] at e; cases e
                  | stuck => simp only [e4] at e; cases e
                  | ok ys' g6 =>
                    simp only [e4] at e
                    have s45 := s4.trans s5
                    obtain ⟨k1, k2, k3⟩ := keepA s45
                    have e5 : ys = yd :: ys' ∧ g6 = g3 := by
                      simp only [Res.ok.injEq] at e
                      exact ⟨e.1.symm, e.2⟩
                    obtain ⟨rfl, rfl⟩ := e5
                    have s25 : Step ⟨m2, F2, g2, H2⟩ m5 F5 g5 H5 := s3.trans s45
                    refine ⟨acc, k1, by omega, ?_⟩
                    exact ⟨m5, F5, g5, acc ++ [v], accD ++ [yd], (s2.trans s25).wr hD, w5.wr k2 k3, upd_same, k2, k3, (RepL.mono s25.grow _ _ rA).append (.cons q5 .nil), (by simp; omega), ys', e4, (by rw [← hz]; simp)⟩
              | false =>
                simp only at e
                rw [if_neg Bool.false_ne_true]
                obtain ⟨k1, k2, k3⟩ := keepA s4
                have s24 : Step ⟨m2, F2, g2, H2⟩ m4 F4 g4 H4 := s3.trans s4
                exact ⟨m4, F4, g4, acc, accD, s2.trans s24, w4, k1, k2, k3, RepL.mono s24.grow _ _ rA, (by omega), ys, e, hz⟩
      · rintro H' ⟨m2, F2, g2, acc, accD, s2, w2, hA, fA, lA, rA, hl, ys, e, hz⟩
        rw [List.drop_length] at e
        simp only [compF, Res.ok.injEq] at e
        obtain ⟨rfl, rfl⟩ := e
        rw [List.append_nil] at hz
        subst hz
        exact hout ⟨m1, F1, g1, H1⟩ m2 F2 g2 H' D acc accD σ Q hD s2 w2 hA fA lA rA hS
    · exact h1.elim)
theorem se_lc {wi : TI} {fi : Env → G → Res (List FL.D)} {tg : TG} {ft : FL.D → G → Env → Option Env} {tt : TT} {fif : Env → G → Res Bool} {te : TE} {fe : Env → G → Res FL.D} {ix vs : List Nat} (hi : SI K cls W wi fi) (hg : SG K cls ix tg ft) (hif : ST K cls W0 tt fif) (he : SE K cls W0 te fe) (hx : ∀ j ∈ ix, j ∈ vs) :
    SE K cls W (tLc wi tg tt te vs) (fLc fi ft fif fe vs) :=
  se_lcG (fun zs g => .ok (.lst zs) g) (fun S m2 F2 g2 H' D acc zs σ Q hD s2 w2 hA fA lA rA h => h _ m2 (upd F2 D (.lst acc)) H' (s2.freeze fA hD) (w2.freeze fA lA hA) (.lst upd_same (RepL.mono (grow_new fA) _ _ rA))) hi hg hif he hx
/-- a comprehension whose list is a cell -/
def fLcC (fi : Env → G → Res (List FL.D)) (ft : FL.D → G → Env → Option Env) (fif : Env → G → Res Bool) (fe : Env → G → Res FL.D) (vs : List Nat) : Env → G → Res FL.D := fLcG (fun (zs : List FL.D) (g : G) => (Res.ok (FL.D.ref g.length) (g ++ [Cell.lst zs]) : Res FL.D)) fi ft fif fe vs
theorem se_lcC {wi : TI} {fi : Env → G → Res (List FL.D)} {tg : TG} {ft : FL.D → G → Env → Option Env} {tt : TT} {fif : Env → G → Res Bool} {te : TE} {fe : Env → G → Res FL.D} {ix vs : List Nat} (hi : SI K cls W wi fi) (hg : SG K cls ix tg ft) (hif : ST K cls W0 tt fif) (he : SE K cls W0 te fe) (hx : ∀ j ∈ ix, j ∈ vs) :
    SE K cls W (tLc wi tg tt te vs) (fLcC fi ft fif fe vs) :=
  se_lcG (fun (zs : List FL.D) (g : G) => (Res.ok (FL.D.ref g.length) (g ++ [Cell.lst zs]) : Res FL.D)) (fun S m2 F2 g2 H' D acc zs σ Q hD s2 w2 hA fA lA rA h => h _ (m2 ++ [D]) F2 H' (s2.adopt w2.len hD) (w2.adopt (c := .lst zs) fA lA (fun z => by cases z) ⟨acc, hA, RepL.mono ⟨fun n a h => by rw [List.getElem?_append_left (List.getElem?_eq_some_iff.mp h).1]; exact h, fun _ _ h => h⟩ _ _ rA⟩) (.ref (by rw [← w2.len, List.getElem?_append_right (Nat.le_refl _), Nat.sub_self]; rfl))) hi hg hif he hx
end
end FL

namespace FR
open PySem PySem.Spec PyProof.Rows L2 PySem.W
section
variable {prog : Program} {w : World} {A : Around} {E : Value → Shared → Prop} {s : Shared}
theorem starT {l : Addr} {items : Array Value} {n i : Nat} {Q : List Value → Shared → Prop} (hl : IsTup s.heap l items) (hh : A.handled = none) (hi : i < n) (hn : n ≤ items.size + 1) (hz : items.size ≤ sizeLine)
    (h : ∀ h' tk, Heap.ExtBut s.heap.objs.size s.heap h' → Q (items.toList.take i ++ [.ref h'.objs.size] ++ (items.toList.drop i).drop (items.size + 1 - n)) { s with heap := h'.push { cls := .type "list", data := .seq ((items.toList.drop i).take (items.size + 1 - n)).toArray }, toks := tk }) :
    wpAny (model prog w) A (unpackItems (.ref l) n (some i)) Q E s := by
  have hlt : l ≠ s.heap.objs.size := by obtain ⟨o, ho, _⟩ := hl; exact Nat.ne_of_lt (Heap.lt_size ho)
  have hll : l < s.heap.objs.size := by obtain ⟨o, ho, _⟩ := hl; exact Heap.lt_size ho
  unfold unpackItems
  refine wpAny_bind ?_
  unfold notIterableAtAll
  refine wpAny_bind (wpAny_specialOf hl.typeIs slot_tuple_iter.lookup ?_)
  refine wpAny_pure ?_
  simp only [Bool.false_eq_true, if_false]
  refine wpAny_bind (wpAny_holding (iter_tuple hl ?_))
  refine wpAny_bind (wpAny_holding (draw_tuple hlt i 0 _ _ ⟨_, Heap.get?_push_size _ rfl, rfl, rfl⟩ (hl.push _) (by omega) fun h₁ hit₁ hs₁ => ?_))
  have hl₁ : IsTup h₁ l items := (hl.push _).extBut hs₁.extBut hlt
  rw [Nat.zero_add] at hit₁
  have hit₁' := hit₁
  obtain ⟨oi, hoi, _⟩ := hit₁'
  have hl₁' := hl₁
  obtain ⟨ol, hol, _⟩ := hl₁'
  rw [List.drop_zero]
  have hfl : (items.toList.take i).length = i := by rw [List.length_take, Array.length_toList]; omega
  rw [if_neg (show ¬ ((items.toList.take i).length < i) by rw [hfl]; omega)]
  refine wpAny_bind (wpAny_holding (kun_collect (s := { s with heap := h₁ }) (T := "tuple_iterator") (.inr (.inr (.inr rfl))) (Walks.tuple (A := A.in1) hh s.heap.objs.size l hlt items) (fun j u st => st.1.typeIs) (k := i) (by omega) ⟨hit₁, hl₁⟩ (Heap.lt_size hoi) (Heap.lt_size hol) (fun h₂ tk hk => ?_) hz))
  have hrl : (items.toList.drop i).length = items.size - i := by rw [List.length_drop, Array.length_toList]
  have hmid : (items.toList.drop i).length - (n - 1 - i) = items.size + 1 - n := by rw [hrl]; omega
  show wpAny _ _ (if (items.toList.drop i).length < n - 1 - i then _ else _) _ _ _
  rw [if_neg (by rw [hrl]; omega)]
  show wpAny _ _ (newList ((items.toList.drop i).take ((items.toList.drop i).length - (n - 1 - i))) >>= fun d => pure (items.toList.take i ++ [d] ++ (items.toList.drop i).drop ((items.toList.drop i).length - (n - 1 - i)))) _ _ _
  rw [hmid]
  have he : Heap.ExtBut s.heap.objs.size s.heap h₂ := fun b o hb e => hk b o hb (hs₁.extBut b o hb (Heap.get?_push_of_some _ e))
  exact wpAny_bind (wpAny_newObj_type (wpAny_pure (h h₂ tk he)) (by show ((items.toList.drop i).take (items.size + 1 - n)).toArray.size ≤ sizeLine; rw [List.size_toArray, List.length_take, hrl]; omega))
theorem starL {l : Addr} {items : Array Value} {n i : Nat} {Q : List Value → Shared → Prop} (hl : s.heap.IsList l items) (hh : A.handled = none) (hi : i < n) (hn : n ≤ items.size + 1) (hz : items.size ≤ sizeLine)
    (h : ∀ h' tk, Heap.ExtBut s.heap.objs.size s.heap h' → Q (items.toList.take i ++ [.ref h'.objs.size] ++ (items.toList.drop i).drop (items.size + 1 - n)) { s with heap := h'.push { cls := .type "list", data := .seq ((items.toList.drop i).take (items.size + 1 - n)).toArray }, toks := tk }) :
    wpAny (model prog w) A (unpackItems (.ref l) n (some i)) Q E s := by
  have hlt : l ≠ s.heap.objs.size := by obtain ⟨o, ho, _⟩ := hl; exact Nat.ne_of_lt (Heap.lt_size ho)
  have hll : l < s.heap.objs.size := by obtain ⟨o, ho, _⟩ := hl; exact Heap.lt_size ho
  unfold unpackItems
  refine wpAny_bind ?_
  unfold notIterableAtAll
  refine wpAny_bind (wpAny_specialOf hl.typeIs slot_list_iter.lookup ?_)
  refine wpAny_pure ?_
  simp only [Bool.false_eq_true, if_false]
  refine wpAny_bind (wpAny_holding (wpAny_pyIter_list hl ?_))
  refine wpAny_bind (wpAny_holding (kun_draw hlt i 0 _ _ ⟨_, Heap.get?_push_size _ rfl, rfl, rfl⟩ (hl.push _) (by omega) fun h₁ hit₁ hs₁ => ?_))
  have hl₁ : h₁.IsList l items := (hl.push _).extBut hs₁.extBut hlt
  rw [Nat.zero_add] at hit₁
  have hit₁' := hit₁
  obtain ⟨oi, hoi, _⟩ := hit₁'
  have hl₁' := hl₁
  obtain ⟨ol, hol, _⟩ := hl₁'
  rw [List.drop_zero]
  have hfl : (items.toList.take i).length = i := by rw [List.length_take, Array.length_toList]; omega
  rw [if_neg (show ¬ ((items.toList.take i).length < i) by rw [hfl]; omega)]
  refine wpAny_bind (wpAny_holding (kun_collect (s := { s with heap := h₁ }) (T := "list_iterator") (.inr (.inr (.inl rfl))) (Walks.list (A := A.in1) hh s.heap.objs.size l hlt items) (fun j u st => st.1.typeIs) (k := i) (by omega) ⟨hit₁, hl₁⟩ (Heap.lt_size hoi) (Heap.lt_size hol) (fun h₂ tk hk => ?_) hz))
  have hrl : (items.toList.drop i).length = items.size - i := by rw [List.length_drop, Array.length_toList]
  have hmid : (items.toList.drop i).length - (n - 1 - i) = items.size + 1 - n := by rw [hrl]; omega
  show wpAny _ _ (if (items.toList.drop i).length < n - 1 - i then _ else _) _ _ _
  rw [if_neg (by rw [hrl]; omega)]
  show wpAny _ _ (newList ((items.toList.drop i).take ((items.toList.drop i).length - (n - 1 - i))) >>= fun d => pure (items.toList.take i ++ [d] ++ (items.toList.drop i).drop ((items.toList.drop i).length - (n - 1 - i)))) _ _ _
  rw [hmid]
  have he : Heap.ExtBut s.heap.objs.size s.heap h₂ := fun b o hb e => hk b o hb (hs₁.extBut b o hb (Heap.get?_push_of_some _ e))
  exact wpAny_bind (wpAny_newObj_type (wpAny_pure (h h₂ tk he)) (by show ((items.toList.drop i).take (items.size + 1 - n)).toArray.size ≤ sizeLine; rw [List.size_toArray, List.length_take, hrl]; omega))
end
end FR
namespace FR
open PySem PySem.Spec PyProof.Rows L2
/-- (a, *r, b) = a list or tuple; i: the star's place among the n targets -/
def gStar (K : PySem.W.Frag) (n i : Nat) (t : TGs) : TG := fun v σ H Q => ∃ a xs, v = .ref a ∧ (SqT K H a xs ∨ SqL K H a xs) ∧ n ≤ xs.length + 1 ∧
  ∀ p, H p = none → t (xs.take i ++ [.ref p] ++ (xs.drop i).drop (xs.length + 1 - n)) σ (upd H p (.lst ((xs.drop i).take (xs.length + 1 - n)))) Q
theorem pg_star {X : Cx} {es es' : List Expr} {k : Nat} {pos : Pos} {t : TGs} {n i : Nat} (hc : X.calm = true) (h : PGs X es' t) (hin : i < n)
    (hn : (assignEach es X.env).length = n := by rfl) (hst : (assignEach es X.env).findIdx? (·.1) = some i := by rfl) (hs : (assignEach es X.env).map (·.2) = (assignEach es' X.env).map (·.2) := by rfl) : PG X (.Tuple es k pos) (gStar X.K n i t) := by
  refine ⟨fun pins s σ H v u Q I r hw => ?_⟩
  obtain ⟨a, xs, e1, hq, hl, hw⟩ := hw
  subst e1
  cases r
  have fin : ∀ (its : List Value) (rv : Vals xs its) (hz : xs.length ≤ sizeLine), (∀ Q' : List Value → Shared → Prop, (∀ h' tk, Heap.ExtBut s.heap.objs.size s.heap h' → Q' (its.take i ++ [.ref h'.objs.size] ++ (its.drop i).drop (its.length + 1 - n)) { s with heap := h'.push { cls := .type "list", data := .seq ((its.drop i).take (its.length + 1 - n)).toArray }, toks := tk }) →
      wpAny (model X.prog X.w) X.A (unpackItems (.ref a) n (some i)) Q' X.xe s) →
      wpAny (model X.prog X.w) X.A (assign (.Tuple es k pos) X.env (.ref a)) (fun _ s' => ∃ σ' H', Inv X pins σ' H' s' ∧ Q σ' H') X.xe s := fun its rv hz hU => by
    rw [assign_Tuple]
    refine wpAny_bind (wpAny_standAt ?_)
    unfold unpack
    rw [hn, hst]
    refine wpAny_bind (wpAny_holding (hU _ fun h' tk hx => ?_))
    have I1 : Inv X pins σ H { s with heap := h', toks := tk } := I.kept (t' := tk) fun b o e => hx b o (Nat.ne_of_lt (Heap.lt_size e)) e
    have hf : H h'.objs.size = none := I1.hok.fresh (Nat.le_refl _)
    have I2 := I1.laid (a := h'.objs.size) (o := .lst ((xs.drop i).take (xs.length + 1 - n))) (h' := h'.push { cls := .type "list", data := .seq ((its.drop i).take (its.length + 1 - n)).toArray }) (t' := tk) (fun b u e => Heap.get?_push_of_some _ e) (Nat.le_refl _)
      ⟨by rw [List.length_take, List.length_drop]; omega, (its.drop i).take (its.length + 1 - n), 0, by rw [← rv.length]; exact (rv.drop i).take _, Heap.get?_push_size _ rfl⟩
    rw [hs]
    refine h.run pins _ σ _ _ _ Q I2 ?_ (hw _ hf)
    rw [← rv.length]
    exact ((rv.take i).append (.cons (show RelV (.ref h'.objs.size) (.ref h'.objs.size) from rfl) .nil)).append ((rv.drop i).drop _)
  rcases hq with hq | hq
  · obtain ⟨its, rv, ht, hz⟩ := I.tuple hq
    refine fin its rv hz fun Q' hQ => ?_
    refine starT ht (I.ok.hd hc) hin (by rw [List.size_toArray, ← rv.length]; exact hl) (by rw [List.size_toArray, ← rv.length]; exact hz) fun h' tk hx => ?_
    simpa using hQ h' tk hx
  · obtain ⟨its, rv, ht, hz⟩ := I.list hq
    refine fin its rv hz fun Q' hQ => ?_
    refine starL ht.isList (I.ok.hd hc) hin (by rw [List.size_toArray, ← rv.length]; exact hl) (by rw [List.size_toArray, ← rv.length]; exact hz) fun h' tk hx => ?_
    simpa using hQ h' tk hx
end FR

namespace FL
open PySem PySem.Spec PyProof.Rows L2 FR

/-! ### star targets, stores, lists of the def's own, while, defs, calls -/
def gStarF (r : List D → G → Env → Option Env) (n i : Nat) : D → G → Env → Option Env := fun d g env =>
  match (match d with | .tup xs => some xs | .lst xs => some xs | _ => none) with
  | some xs => if n ≤ xs.length + 1 then r (xs.take i ++ [.lst ((xs.drop i).take (xs.length + 1 - n))] ++ (xs.drop i).drop (xs.length + 1 - n)) g env else none
  | none => none
/-- a dict's entry put, dropped -/
def setK (kvs : List (Key × D)) (k : Key) (v : D) : List (Key × D) :=
  if (kvs.any fun kv => decide (kv.1 = k)) = true then kvs.map (fun kv => if kv.1 = k then (kv.1, v) else kv) else kvs ++ [(k, v)]
def delK (kvs : List (Key × D)) (k : Key) : List (Key × D) := kvs.filter fun kv => decide (kv.1 ≠ k)
/-- a cell's item or entry is set -/
def setCell (g : G) (o i d : D) : Option G := match o with
  | .ref n => match g[n]? with
    | some (.lst xs) => match i with
      | .int k => (ixN xs.length k).map fun j => g.set n (.lst (xs.set j d))
      | _ => none
    | some (.dct kvs) => match keyD i with
      | some k => if kvs.length < sizeLine then some (g.set n (.dct (setK kvs k d))) else none
      | none => none
    | _ => none
  | _ => none
def fStore (fe fo fi : Env → G → Res D) : Env → G → SRes := fun env g => eS env (fe env g) fun d g1 => eS env (fo env g1) fun o g2 => eS env (fi env g2) fun i g3 => match setCell g3 o i d with
  | some g4 => .next env g4
  | none => .stuck
def fSetL (fa : Env → G → Res (List D)) (i : Nat) : Env → G → SRes := fun env g => match fa env g with
  | .ok ds g1 => if ds.length ≤ sizeLine ∧ i < env.length then .next (env.set i (.lst ds)) g1 else .stuck
  | .exc x g1 => .exc x env g1
  | .stuck => .stuck
def fAppO (i : Nat) (fa : Env → G → Res D) : Env → G → SRes := fun env g => match env[i]? with
  | some (.lst xs) => eS env (fa env g) fun d g1 => if xs.length < sizeLine then .next (env.set i (.lst (xs ++ [d]))) g1 else .stuck
  | _ => .stuck
/-- from here on the i-th slot is a value -/
def frz (i : Nat) (env : Env) : Env := match env[i]? with
  | some (.lst xs) => env.set i (.val (.lst xs))
  | some (.dct xs) => env.set i (.val (.dct xs))
  | _ => env
def fFrz (i : Nat) (f : Env → G → SRes) : Env → G → SRes := fun env g => f (frz i env) g
def startE (n : Nat) (ds : List D) : Env := ds.map .val ++ List.replicate (n - ds.length) .un
def bodyF (p n : Nat) (fb : Env → G → SRes) : List D → G → Res D := fun ds g => if ds.length = p then (match fb (startE n ds) g with
  | .next _ g1 => .ok .non g1
  | .ret d g1 => .ok d g1
  | .exc x _ g1 => .exc x g1
  | _ => .stuck) else .stuck

section
variable {K : PySem.W.Frag} {cls : Str → Addr} {W : WX} {m : List Addr} {F : Hp} {g : G} {H : Hp} {env : Env} {os : Nat → Option Addr} {σ : L2.St}
theorem sg_star {n i : Nat} {tgs : TGs} {fr : List FL.D → G → Env → Option Env} {ix : List Nat} (h1 : SGs K cls ix tgs fr) : SG K cls ix (gStar K n i tgs) (gStarF fr n i) := fun m F g H env os σ v d Q rl q h => by
  have main : ∀ (a : Addr) (xs : List V) (ds : List FL.D), v = .ref a → (SqT K H a xs ∨ SqL K H a xs) → RepL K cls m F xs ds → (match (if n ≤ ds.length + 1 then fr (ds.take i ++ [.lst ((ds.drop i).take (ds.length + 1 - n))] ++ (ds.drop i).drop (ds.length + 1 - n)) g env else none) with
    | some env' => ∀ m' F' H' os' σ', Step ⟨m, F, g, H⟩ m' F' g H' → Rl K cls m' F' g H' env' os' σ' → (∀ j l, os' j = some l → os j = some l) → σ'.length = σ.length ∧ (∀ j, j ∉ ix → σ'[j]? = σ[j]?) → Q σ' H'
    | none => False) → gStar K n i tgs v σ H Q := fun a xs ds e hs r h => by
    split at h
    · rename_i env' e1
      split at e1
      · rename_i hn
        refine ⟨a, xs, e, hs, by rw [r.length]; exact hn, fun p hp => ?_⟩
        rw [r.length]
        obtain ⟨w2, s2⟩ := rl.w.new (o := .lst ((xs.drop i).take (ds.length + 1 - n))) hp
        have r2 := RepL.mono s2.grow _ _ r
        refine h1 m _ g _ env os σ _ _ Q (rl.step s2 w2) (((r2.take i).append (.cons (.lst upd_same ((r2.drop i).take _)) .nil)).append ((r2.drop i).drop (ds.length + 1 - n))) ?_
        rw [e1]
        exact fun m' F' H' os' σ' s3 r3 ho hc => h m' F' H' os' σ' (s2.trans s3) r3 ho hc
      · cases e1
    · exact h.elim
  cases d <;> first | exact h.elim | skip
  · cases q with
    | tup a b => exact main _ _ _ rfl (.inl (sqT_mono rl.w.fe a)) b h
  · cases q with
    | lst a b => exact main _ _ _ rfl (.inr (SqL.of (rl.w.fe _ _ a))) b h
/-- a live cell is written -/
theorem World.setCell (w : World K cls m F g H) {n : Nat} {c c' : Cell} {a : Addr} {o : HO} (hc : g[n]? = some c) (hd : c ≠ .dead) (hm : m[n]? = some a) (hd' : c' ≠ .dead) (hr : CellR K cls m F (upd H a o) a c') :
    World K cls m F (g.set n c') (upd H a o) ∧ Step ⟨m, F, g, H⟩ m F (g.set n c') (upd H a o) := by
  have hn : n < g.length := (List.getElem?_eq_some_iff.mp hc).1
  have la : LiveAt m g a := ⟨n, c, hc, hd, hm⟩
  have at' : ∀ (k : Nat) (e : Cell), (g.set n c')[k]? = some e → (k = n ∧ e = c') ∨ (k ≠ n ∧ g[k]? = some e) := fun k e h => by
    by_cases hk : k = n
    · subst hk
      rw [List.getElem?_set_self hn] at h
      cases h
      exact .inl ⟨rfl, rfl⟩
    · rw [List.getElem?_set_ne (Ne.symm hk)] at h
      exact .inr ⟨hk, h⟩
  refine ⟨⟨by simpa using w.len, fun k e b h1 h2 => ?_, fun k e b h1 h2 h3 => ?_, fun k k' e e' b h1 h2 h3 h4 h5 h6 => ?_, fun b u h => ?_⟩, ⟨Grow.refl _ _, fun b u h1 h2 => ?_, fun b h1 h2 => absurd h2 h1, fun b h => ?_, fun b h => up_none h⟩⟩
  · rcases at' k e h1 with ⟨rfl, rfl⟩ | ⟨hk, h3⟩
    · rw [hm] at h2; cases h2; exact hr
    · by_cases hdd : e = .dead
      · subst hdd; trivial
      · have ne : b ≠ a := fun z => hk (w.inj k n e c a h3 hdd hc hd (z ▸ h2) hm)
        exact CellR.mono (Grow.refl _ _) (upd_ne ne) (w.at_ k e b h3 h2)
  · rcases at' k e h1 with ⟨rfl, rfl⟩ | ⟨hk, h4⟩
    · rw [hm] at h3; cases h3; exact w.nf k c a hc hd hm
    · exact w.nf k e b h4 h2 h3
  · rcases at' k e h1 with ⟨rfl, rfl⟩ | ⟨hk, h7⟩
    · rcases at' k' e' h3 with ⟨rfl, rfl⟩ | ⟨hk', h8⟩
      · rfl
      · rw [hm] at h5; cases h5; exact w.inj k k' c e' a hc hd h8 h4 hm h6
    · rcases at' k' e' h3 with ⟨rfl, rfl⟩ | ⟨hk', h8⟩
      · rw [hm] at h6; cases h6; exact w.inj k k' e c a h7 h2 hc hd h5 hm
      · exact w.inj k k' e e' b h7 h2 h8 h4 h5 h6
  · have ne : b ≠ a := fun z => by subst z; rw [w.nf n c b hc hd hm] at h; cases h
    rw [upd_ne ne]
    exact w.fe b u h
  · have ne : b ≠ a := fun z => h2 (z ▸ la)
    rw [upd_ne ne]
    exact h1
  · obtain ⟨k, e, h1, h2, h3⟩ := h
    rcases at' k e h1 with ⟨rfl, rfl⟩ | ⟨hk, h7⟩
    · rw [hm] at h3; cases h3; exact .inl la
    · exact .inl ⟨k, e, h7, h2, h3⟩
theorem repK_any {k : Key} : ∀ {xs : List (Key × V)} {ds : List (Key × FL.D)}, RepK K cls m F xs ds → (xs.any fun kv => decide (kv.1 = k)) = (ds.any fun kv => decide (kv.1 = k))
  | _, [], r => by cases r; rfl
  | _, d :: ds, r => by
    cases r with
    | cons a b => rw [List.any_cons, List.any_cons, repK_any b]
theorem repK_map {k : Key} {v : V} {d : FL.D} (r : Rep K cls m F v d) : ∀ {xs : List (Key × V)} {ds : List (Key × FL.D)}, RepK K cls m F xs ds → RepK K cls m F (xs.map fun kv => if kv.1 = k then (kv.1, v) else kv) (ds.map fun kv => if kv.1 = k then (kv.1, d) else kv)
  | _, [], q => by cases q; exact .nil
  | _, e :: ds, q => by
    cases q with
    | cons a b =>
      rename_i k' v' xs' d' 
      rw [List.map_cons, List.map_cons]
      by_cases h : k' = k
      · simp only [h, if_true]
        exact .cons r (repK_map r b)
      · simp only [h, if_false]
        exact .cons a (repK_map r b)
theorem repK_append : ∀ {xs ys : List (Key × V)} {ds es : List (Key × FL.D)}, RepK K cls m F xs ds → RepK K cls m F ys es → RepK K cls m F (xs ++ ys) (ds ++ es)
  | _, _, [], _, h, q => by cases h; exact q
  | _, _, d :: ds, _, h, q => by
    cases h with
    | cons a b => exact .cons a (repK_append b q)
theorem putK_rep {k : Key} {v : V} {d : FL.D} (r : Rep K cls m F v d) {xs : List (Key × V)} {ds : List (Key × FL.D)} (q : RepK K cls m F xs ds) : RepK K cls m F (putK xs k v) (setK ds k d) := by
  unfold putK setK
  rw [repK_any q]
  split
  · exact repK_map r q
  · exact repK_append q (.cons r .nil)
theorem dropK_rep {k : Key} : ∀ {xs : List (Key × V)} {ds : List (Key × FL.D)}, RepK K cls m F xs ds → RepK K cls m F (dropK xs k) (delK ds k)
  | _, [], q => by cases q; exact .nil
  | _, e :: ds, q => by
    cases q with
    | cons a b =>
      rename_i k' v' xs' d'
      unfold dropK delK
      rw [List.filter_cons, List.filter_cons]
      by_cases h : k' = k
      · simp only [h, ne_eq, not_true, decide_false, Bool.false_eq_true, if_false]
        exact dropK_rep b
      · simp only [h, ne_eq, not_false_eq_true, decide_true, if_true]
        exact .cons a (dropK_rep b)
/-- o[i] = v, a list or a dict -/
def rSetAll : V → V → V → Hp → (Hp → Prop) → Prop := fun o i v H Q => rSetL o i v H Q ∨ ∃ a H', o = .ref a ∧ DPut H a i v H' ∧ Q H'
theorem set_all {X : Cx} (hu : X.A.units + 1 < cLine) : PSet X rSetAll := by
  intro pins s σ H o i v ov iv u Q I ro ri rv h
  rcases h with h | ⟨a, H', rfl, h, q⟩
  · exact set_list pins s σ H o i v ov iv u Q I ro ri rv h
  · cases ro
    exact d_setItem hu I h ri rv fun s' I' => ⟨H', I', q⟩
theorem live_of {n : Nat} {c : Cell} {v : V} (w : World K cls m F g H) (r : Rep K cls m F v (.ref n)) (e : g[n]? = some c) : ∃ a, v = .ref a ∧ m[n]? = some a ∧ CellR K cls m F H a c := by
  cases r with
  | ref a => exact ⟨_, rfl, a, w.at_ n c _ e a⟩
theorem ss_store {te to ti : TE} {fe fo fi : Env → G → Res FL.D} (he : SE K cls W te fe) (ho : SE K cls W to fo) (hi : SE K cls W ti fi) : SS K cls W (tAsg te (gSub to ti rSetAll)) (fStore fe fo fi) := fun B D m F g H env os σ rl h =>
  he m F g H env os σ _ rl.r (sat_e rl h fun d g1 v m1 F1 H1 s1 r1 q1 h1 => ho m1 F1 g1 H1 env os σ _ r1.r (sat_e r1 h1 fun o g2 ov m2 F2 H2 s2 r2 q2 h2 => hi m2 F2 g2 H2 env os σ _ r2.r (sat_e r2 h2 fun i g3 iv m3 F3 H3 s3 r3 q3 h3 => by
    have q1' := Rep.mono (s2.trans s3).grow _ _ q1
    have q2' := Rep.mono s3.grow _ _ q2
    have hw := r3.r.w
    cases e : setCell g3 o i d with
    | none => simp only [e] at h3; exact h3.elim
    | some g4 =>
      simp only [e] at h3
      unfold setCell at e
      split at e
      · rename_i n
        split at e
        · rename_i xs ec
          split at e
          · rename_i k
            obtain ⟨j, ej, rfl⟩ := Option.map_eq_some_iff.mp e
            obtain ⟨a, rfl, em, us, hH, hL⟩ := live_of hw q2' ec
            cases q3
            refine .inl ⟨a, us, _, j, rfl, rfl, hH, by rw [hL.length]; exact ej, ?_⟩
            obtain ⟨w4, s4⟩ := hw.setCell (c' := .lst (xs.set j d)) (o := .lst (us.set j v)) ec (fun z => by cases z) em (fun z => by cases z) ⟨_, upd_same, RepL.set q1' j hL⟩
            exact h3 m3 F3 _ os σ (Grow.refl _ _) (r3.step s4 w4)
          · cases e
        · rename_i kvs ec
          split at e
          · rename_i k ek
            split at e
            · rename_i hl
              cases e
              obtain ⟨a, rfl, em, us, hH, hL⟩ := live_of hw q2' ec
              obtain rfl := key_rep q3 ek
              refine .inr ⟨a, _, rfl, DPut.k hH (by rw [repK_length hL]; exact hl), ?_⟩
              obtain ⟨w4, s4⟩ := hw.setCell (c' := .dct (setK kvs k d)) (o := .dK (putK us k v)) ec (fun z => by cases z) em (fun z => by cases z) ⟨_, upd_same, putK_rep q1' hL⟩
              exact h3 m3 F3 _ os σ (Grow.refl _ _) (r3.step s4 w4)
            · cases e
          · cases e
        · cases e
      · cases e)))
/-- a fresh list of the def's own -/
theorem Rl.ownNew {i : Nat} {l : Addr} {xs : List V} {ds : List FL.D} (r : Rl K cls m F g H env os σ) (hl : H l = none) (hi : i < env.length) (q : RepL K cls m F xs ds) :
    Rl K cls m F g (upd H l (.lst xs)) (env.set i (.lst ds)) (fun j => if j = i then some l else os j) (σ.set i (some (.ref l))) := by
  have hF : F l = none := r.w.hF hl
  have hL : ¬ LiveAt m g l := fun z => z.tracked r.w hl
  have ne : ∀ j k, os j = some k → k ≠ l := fun j k e z => by
    obtain ⟨_, _, h3, _⟩ := r.own j k e
    rw [z] at h3
    exact h3 hl
  refine ⟨r.w.wr hF hL, fun j s e => ?_, by simpa using r.len, fun j k e => ?_, fun a b k e1 e2 => ?_⟩
  · by_cases hj : j = i
    · subst hj
      rw [List.getElem?_set_self hi] at e
      cases e
      exact ⟨l, xs, if_pos rfl, List.getElem?_set_self (by rw [r.len]; exact hi), upd_same, q⟩
    · rw [List.getElem?_set_ne (Ne.symm hj)] at e
      have h := r.sl j s e
      have hs : (σ.set i (some (.ref l)))[j]? = σ[j]? := List.getElem?_set_ne (Ne.symm hj)
      cases s with
      | un => exact (if_neg hj).trans h
      | val d' =>
        obtain ⟨o, w, h1, h2⟩ := h
        exact ⟨(if_neg hj).trans o, w, hs.trans h1, h2⟩
      | lst ds =>
        obtain ⟨k, ys, h1, h2, h3, h4⟩ := h
        exact ⟨k, ys, (if_neg hj).trans h1, hs.trans h2, (upd_ne (ne j k h1)).trans h3, h4⟩
      | dct ds =>
        obtain ⟨k, ys, h1, h2, h3, h4⟩ := h
        exact ⟨k, ys, (if_neg hj).trans h1, hs.trans h2, (upd_ne (ne j k h1)).trans h3, h4⟩
  · have e' : (if j = i then some l else os j) = some k := e
    split at e'
    · cases e'
      rename_i hj
      exact ⟨hF, hL, (by rw [upd_same]; exact fun z => by cases z), by rw [List.length_set, hj]; exact hi⟩
    · obtain ⟨h1, h2, h3, h4⟩ := r.own j k e'
      exact ⟨h1, h2, (by rw [upd_ne (ne j k e')]; exact h3), by simpa using h4⟩
  · have e1' : (if a = i then some l else os a) = some k := e1
    have e2' : (if b = i then some l else os b) = some k := e2
    split at e1'
    · cases e1'
      split at e2'
      · rename_i h1 h2; rw [h1, h2]
      · exact absurd rfl (ne b _ e2')
    · split at e2'
      · cases e2'
        exact absurd rfl (ne a _ e1')
      · exact r.inj a b k e1' e2'
theorem sat_a {B : Base} {m : List Addr} {F : Hp} {g : G} {H : Hp} {env : Env} {os : Nat → Option Addr} {σ : L2.St} {D : Ends} {r : Res (List FL.D)} {k : List FL.D → G → SRes} {Q : List V → Hp → Prop} (rl : RlB K cls B m F g H env os σ)
    (h : SatS K cls W B m F D (match r with | .ok ds g1 => k ds g1 | .exc x g1 => .exc x env g1 | .stuck => .stuck))
    (hq : ∀ ds g1 vs m1 F1 H1, Step ⟨m, F, g, H⟩ m1 F1 g1 H1 → RlB K cls B m1 F1 g1 H1 env os σ → RepL K cls m1 F1 vs ds → SatS K cls W B m1 F1 D (k ds g1) → Q vs H1) : Sat K cls W σ (RepL K cls) ⟨m, F, g, H⟩ r Q := by
  cases r with
  | ok d g1 => exact fun v m1 F1 H1 s w q => hq d g1 v m1 F1 H1 s (rl.step s w) q (SatS.mono (show SatS K cls W B m F D (k d g1) from h) s.grow)
  | exc x g1 => exact fun cl dx m1 F1 H1 s w q => h cl dx m1 F1 H1 os σ s.grow (rl.step s w) q
  | stuck => exact h
theorem ss_setL {tA : TA} {gA : Env → G → Res (List FL.D)} {i : Nat} (ha : SA K cls W tA gA) : SS K cls W (tAsg (tLst tA) (gName i)) (fSetL gA i) := fun B D m F g H env os σ rl h => by
  refine ha m F g H env os σ _ rl.r (sat_a (k := fun ds g1 => if ds.length ≤ sizeLine ∧ i < env.length then .next (env.set i (.lst ds)) g1 else .stuck) rl h fun ds g1 vs m1 F1 H1 s r1 q h1 => ?_)
  split at h1
  · rename_i hl
    refine ⟨by rw [q.length]; exact hl.1, fun p hp => ?_⟩
    exact h1 m1 F1 _ _ _ (Grow.refl _ _) ⟨r1.r.ownNew hp hl.2 q, r1.st.wr (r1.st.tr p hp), fun j l e => by
      have e' : (if j = i then some p else os j) = some l := e
      split at e'
      · cases e'; exact r1.st.tr p hp
      · exact r1.own j l e'⟩
  · exact h1.elim
/-- the def's own list is written -/
theorem Rl.ownSet {i : Nat} {l : Addr} {xs : List V} {ds ds0 : List FL.D} (r : Rl K cls m F g H env os σ) (e0 : env[i]? = some (.lst ds0)) (ho : os i = some l) (q : RepL K cls m F xs ds) :
    Rl K cls m F g (upd H l (.lst xs)) (env.set i (.lst ds)) os σ := by
  obtain ⟨hF, hL, h3, h4⟩ := r.own i l ho
  have ne : ∀ j k, j ≠ i → os j = some k → k ≠ l := fun j k hj e z => hj (r.inj j i l (z ▸ e) ho)
  refine ⟨r.w.wr hF hL, fun j s e => ?_, by simpa using r.len, fun j k e => ?_, r.inj⟩
  · by_cases hj : j = i
    · subst hj
      rw [List.getElem?_set_self h4] at e
      cases e
      obtain ⟨k, ys, h5, h6, h7, h8⟩ := r.sl j _ e0
      rw [ho] at h5
      cases h5
      exact ⟨l, xs, ho, h6, upd_same, q⟩
    · rw [List.getElem?_set_ne (Ne.symm hj)] at e
      have h := r.sl j s e
      cases s with
      | un => exact h
      | val d' => exact h
      | lst ds =>
        obtain ⟨k, ys, h1, h2, h3, h4⟩ := h
        exact ⟨k, ys, h1, h2, (upd_ne (ne j k hj h1)).trans h3, h4⟩
      | dct ds =>
        obtain ⟨k, ys, h1, h2, h3, h4⟩ := h
        exact ⟨k, ys, h1, h2, (upd_ne (ne j k hj h1)).trans h3, h4⟩
  · obtain ⟨h1, h2, h5, h6⟩ := r.own j k e
    refine ⟨h1, h2, fun z => h5 (up_none z), by simpa using h6⟩
theorem ss_appO {ta : TE} {fa : Env → G → Res FL.D} {i : Nat} (ha : SE K cls W ta fa) : SS K cls W (tDrop (tBM K "list" rAppend (tVar i) (tCons ta tNil))) (fAppO i fa) := fun B D m F g H env os σ rl h => by
  unfold fAppO at h
  split at h
  · rename_i ds e
    obtain ⟨l, xs, h1, h2, h3, h4⟩ := rl.r.sl i _ e
    refine ⟨_, h2, .inl ⟨rfl, xs, SqL.of h3⟩, ha m F g H env os σ _ rl.r (sat_e rl h fun d g1 v m1 F1 H1 s r1 q h5 => ?_)⟩
    split at h5
    · rename_i hl
      obtain ⟨l', xs', k1, k2, k3, k4⟩ := r1.r.sl i _ e
      rw [h1] at k1
      cases k1
      refine ⟨l, xs', v, rfl, rfl, k3, by rw [k4.length]; exact hl, ?_⟩
      exact h5 m1 F1 _ os σ (Grow.refl _ _) ⟨r1.r.ownSet e h1 (k4.append (.cons q .nil)), r1.st.wr (r1.own i l h1), r1.own⟩
    · exact h5.elim
  · exact h.elim
/-- a slot's list becomes a value -/
theorem Rl.frzOwn {i : Nat} {l : Addr} {o : HO} {d : FL.D} (r : Rl K cls m F g H env os σ) (hi : os i = some l) (hs : σ[i]? = some (some (.ref l))) (hH : H l = some o) (q : Rep K cls m (upd F l o) (.ref l) d) :
    Rl K cls m (upd F l o) g H (env.set i (.val d)) (fun j => if j = i then none else os j) σ := by
  obtain ⟨hF, hL, h3, h4⟩ := r.own i l hi
  have gr : Grow m F m (upd F l o) := grow_new hF
  refine ⟨r.w.freeze hF hL hH, fun j s e => ?_, by simpa using r.len, fun j k e => ?_, fun a b k e1 e2 => ?_⟩
  · by_cases hj : j = i
    · subst hj
      rw [List.getElem?_set_self h4] at e
      cases e
      exact ⟨if_pos rfl, _, hs, q⟩
    · rw [List.getElem?_set_ne (Ne.symm hj)] at e
      have h := r.sl j s e
      cases s with
      | un => exact (if_neg hj).trans h
      | val d' =>
        obtain ⟨o', w, h1, h2⟩ := h
        exact ⟨(if_neg hj).trans o', w, h1, Rep.mono gr _ _ h2⟩
      | lst ds =>
        obtain ⟨k, ys, h1, h2, h5, h6⟩ := h
        exact ⟨k, ys, (if_neg hj).trans h1, h2, h5, RepL.mono gr _ _ h6⟩
      | dct ds =>
        obtain ⟨k, ys, h1, h2, h5, h6⟩ := h
        exact ⟨k, ys, (if_neg hj).trans h1, h2, h5, RepK.mono gr _ _ h6⟩
  · have e' : (if j = i then none else os j) = some k := e
    split at e'
    · cases e'
    · rename_i hj
      obtain ⟨h1, h2, h5, h6⟩ := r.own j k e'
      have ne : k ≠ l := fun z => hj (r.inj j i l (z ▸ e') hi)
      exact ⟨(upd_ne ne).trans h1, h2, h5, by simpa using h6⟩
  · have e1' : (if a = i then none else os a) = some k := e1
    have e2' : (if b = i then none else os b) = some k := e2
    split at e1'
    · cases e1'
    · split at e2'
      · cases e2'
      · exact r.inj a b k e1' e2'
theorem RlB.frz {B : Base} (r : RlB K cls B m F g H env os σ) (i : Nat) : ∃ F' os', Grow m F m F' ∧ RlB K cls B m F' g H (frz i env) os' σ := by
  unfold FL.frz
  split
  · rename_i ds e
    obtain ⟨l, xs, h1, h2, h3, h4⟩ := r.r.sl i _ e
    obtain ⟨hF, hL, h5, h6⟩ := r.r.own i l h1
    refine ⟨upd F l (.lst xs), _, grow_new hF, r.r.frzOwn h1 h2 h3 (.lst upd_same (RepL.mono (grow_new hF) _ _ h4)), r.st.freeze hF (r.own i l h1), fun j k e => ?_⟩
    have e' : (if j = i then none else os j) = some k := e
    split at e'
    · cases e'
    · exact r.own j k e'
  · rename_i ds e
    obtain ⟨l, xs, h1, h2, h3, h4⟩ := r.r.sl i _ e
    obtain ⟨hF, hL, h5, h6⟩ := r.r.own i l h1
    refine ⟨upd F l (.dK xs), _, grow_new hF, r.r.frzOwn h1 h2 h3 (.dct upd_same (RepK.mono (grow_new hF) _ _ h4)), r.st.freeze hF (r.own i l h1), fun j k e => ?_⟩
    have e' : (if j = i then none else os j) = some k := e
    split at e'
    · cases e'
    · exact r.own j k e'
  · exact ⟨F, os, Grow.refl _ _, r⟩
theorem ss_frz {t : TS} {f : Env → G → SRes} {i : Nat} (h : SS K cls W t f) : SS K cls W t (fFrz i f) := fun B D m F g H env os σ rl hs => by
  obtain ⟨F', os', gr, r⟩ := rl.frz i
  exact h B D m F' g H _ os' σ r (SatS.mono hs gr)
theorem ss_while {tt : TT} {fc : Env → G → Res Bool} {t : TS} {fb : Env → G → SRes} (n : Nat) (hc : ST K cls W tt fc) (hb : SS K cls W t fb) : SS K cls W (tWhile tt t) (whileF fc fb n) := fun B D m F g H env os σ rl h => by
  refine ⟨fun k σ' H' => ∃ m2 F2 g2 env2 os2, Grow m F m2 F2 ∧ RlB K cls B m2 F2 g2 H' env2 os2 σ' ∧ SatS K cls W B m2 F2 D (whileF fc fb k env2 g2), ⟨n, m, F, g, env, os, Grow.refl _ _, rl, h⟩, ?_⟩
  rintro k σ' H' ⟨m2, F2, g2, env2, os2, gr, r2, h2⟩
  cases k with
  | zero => exact h2.elim
  | succ k =>
    refine hc m2 F2 g2 H' env2 os2 σ' _ r2.r ?_
    unfold whileF at h2
    cases e : fc env2 g2 with
    | stuck => simp only [e] at h2; exact h2.elim
    | exc x g3 => simp only [e] at h2; exact fun cl dx m3 F3 H3 s w q => h2 cl dx m3 F3 H3 os2 σ' s.grow (r2.step s w) q
    | ok b g3 =>
      intro b' m3 F3 H3 s w eb
      subst eb
      have r3 := r2.step s w
      cases b' with
      | false =>
        simp only [e] at h2
        rw [if_neg Bool.false_ne_true]
        exact h2 m3 F3 H3 os2 σ' s.grow r3
      | true =>
        simp only [e] at h2
        rw [if_pos rfl]
        refine ⟨fun σ4 H4 => ∃ m4 F4 g4 env4 os4, Grow m F m4 F4 ∧ RlB K cls B m4 F4 g4 H4 env4 os4 σ4 ∧ SatS K cls W B m4 F4 D (whileF fc fb k env4 g4), fun σ4 H4 q => ⟨k, Nat.lt_succ_self k, q⟩, ?_⟩
        refine hb B _ m3 F3 g3 H3 env2 os2 σ' r3 ?_
        cases e2 : fb env2 g3 with
        | next e4 g4 => simp only [e2] at h2; exact fun m4 F4 H4 os4 σ4 gr4 r6 => ⟨m4, F4, g4, e4, os4, (gr.trans s.grow).trans gr4, r6, SatS.mono h2 (s.grow.trans gr4)⟩
        | cnt e4 g4 => simp only [e2] at h2; exact fun m4 F4 H4 os4 σ4 gr4 r6 => ⟨m4, F4, g4, e4, os4, (gr.trans s.grow).trans gr4, r6, SatS.mono h2 (s.grow.trans gr4)⟩
        | brk e4 g4 => simp only [e2] at h2; exact fun m4 F4 H4 os4 σ4 gr4 r6 => h2 m4 F4 H4 os4 σ4 (s.grow.trans gr4) r6
        | ret d4 g4 => simp only [e2] at h2; exact h2
        | exc x4 e4 g4 => simp only [e2] at h2; exact SatS.mono (r := .exc x4 e4 g4) h2 s.grow
        | stuck => simp only [e2] at h2; exact h2.elim
end

/-! ### defs -/
/-- what a def promises: on data ds and the store g it is Fn ds g -/
def spF (K : PySem.W.Frag) (cls : Str → Addr) (p : Nat) (Fn : List D → G → Res D) : Sp := fun vs H Q E => vs.length = p ∧ ∃ m F g ds, World K cls m F g H ∧ RepL K cls m F vs ds ∧ Sat K cls (fun cl dx _ H' => E cl dx H') [] (Rep K cls) ⟨m, F, g, H⟩ (Fn ds g) Q
section
variable (P : Program) (w : PySem.World) (K : PySem.W.Frag) (mg : Str → Option Value) (base : Heap) (cls : Str → Addr)
/-- the module's name x is a def that is Fn -/
structure GF (x : Str) (k p : Nat) (Fn : List D → G → Res D) : Prop where
  ex : ∃ f fd ps, FnOk P w K mg base (L2.CX P w) k f fd ps (spF K cls p Fn) ∧ mg x = some (.ref f) ∧ PySem.W.keepIn K (.ref f) = true ∧ L2.Binds K fd ps []
  st : ∀ ds g, ds.length ≠ p → Fn ds g = .stuck
end
theorem bodyF_st (p n : Nat) (fb : Env → G → SRes) : ∀ ds g, ds.length ≠ p → bodyF p n fb ds g = .stuck := fun ds g h => by
  unfold bodyF
  rw [if_neg h]
section
variable {K : PySem.W.Frag} {cls : Str → Addr}
theorem startE_get {n : Nat} {ds : List D} {i : Nat} {s : Sl} (h : (startE n ds)[i]? = some s) : (∃ d, ds[i]? = some d ∧ s = .val d) ∨ (ds[i]? = none ∧ s = .un) := by
  unfold startE at h
  by_cases hi : i < ds.length
  · rw [List.getElem?_append_left (by simpa using hi), List.getElem?_map] at h
    cases e : ds[i]? with
    | none => rw [e] at h; cases h
    | some d => rw [e] at h; cases h; exact .inl ⟨d, rfl, rfl⟩
  · rw [List.getElem?_append_right (by simpa using hi), List.getElem?_replicate] at h
    split at h
    · cases h; exact .inr ⟨List.getElem?_eq_none (by omega), rfl⟩
    · cases h
theorem rl_start {m : List Addr} {F : Hp} {g : G} {H : Hp} {N : List Str} {vs : List V} {ds : List D} (w : World K cls m F g H) (r : RepL K cls m F vs ds) : Rl K cls m F g H (startE N.length ds) (fun _ => none) (start N vs) := by
  refine ⟨w, fun i s e => ?_, ?_, fun i l e => (by cases e), fun i j l e => (by cases e)⟩
  · rcases startE_get e with ⟨d, h1, rfl⟩ | ⟨h1, rfl⟩
    · obtain ⟨v, h2, h3⟩ := r.get h1
      refine ⟨rfl, v, ?_, h3⟩
      unfold L2.start
      have hi : i < vs.length := (List.getElem?_eq_some_iff.mp h2).1
      rw [List.getElem?_append_left (by simpa using hi), List.getElem?_map, h2]
      rfl
    · exact rfl
  · unfold L2.start startE
    rw [List.length_append, List.length_append, List.length_map, List.length_map, List.length_replicate, List.length_replicate, r.length]
variable {P : Program} {w : PySem.World} {mg : Str → Option Value} {base : Heap}
/-- THE RULE of a def -/
theorem fn_F {x qual : Str} {st : Stmt} {dvs : List V} {kws : List (Str × V)} {f : Addr} {fd : FuncData} {N ps : List Str} {k p : Nat} {fb : Env → G → SRes} (F : FunD K x qual (defArgs st) (defBody st) (defScope st) dvs kws f fd) (S : FnScope N ps (defScope st)) (hp : ps.length = p)
    (hbody : ∀ (cdv : Value) (A : Around) (outer : List PySem.Env) (s : Shared) (H : Hp) (E : XK), Room k (A.deeper (envOfC qual (defScope st) s.heap.objs.size f cdv)) →
      ∃ t, FSs cls (cxOf (L2.CX P w) P w K mg base N qual (defScope st) f cdv A outer s H E) (fun cl dx _ H' => E cl dx H') (defBody st) t fb) : FnOk P w K mg base (L2.CX P w) (k + 1) f fd ps (spF K cls p (bodyF p N.length fb)) := by
  refine F.ok S (fun vs H Q E h => h.1.trans hp.symm) fun cdv A outer s H vs Q E hr h => ?_
  obtain ⟨t, hp', hs⟩ := hbody cdv A outer s H E hr
  obtain ⟨hl, m, F0, g, ds, wd, rl, sat⟩ := h
  refine ⟨t, hp', hs ⟨m, F0, g, H⟩ _ m F0 g H (startE N.length ds) (fun _ => none) (start N vs) ⟨rl_start wd rl, Step.refl _ _ _ _, fun i l e => (by cases e)⟩ ?_⟩
  unfold bodyF at sat
  rw [if_pos (by rw [← rl.length]; exact hl)] at sat
  cases e : fb (startE N.length ds) g with
  | next e1 g1 => simp only [e] at sat; exact fun m1 F1 H1 os σ gr r => sat .non m1 F1 H1 r.st r.r.w .non
  | ret d g1 => simp only [e] at sat; exact fun v m1 F1 H1 s w r => sat v m1 F1 H1 s w r
  | exc x e1 g1 => simp only [e] at sat; exact fun cl dx m1 F1 H1 os σ gr r q => sat cl dx m1 F1 H1 r.st r.r.w q
  | brk e1 g1 => simp only [e] at sat; exact sat.elim
  | cnt e1 g1 => simp only [e] at sat; exact sat.elim
  | stuck => simp only [e] at sat; exact sat.elim
theorem Sat.wish {α β : Type} {W W' : WX} {σ σ' : L2.St} {rep : List Addr → Hp → β → α → Prop} {S : Base} {r : Res α} {Q : β → Hp → Prop} (h : Sat K cls W σ rep S r Q) (hw : ∀ cl dx H, W cl dx σ H → W' cl dx σ' H) : Sat K cls W' σ' rep S r Q := by
  cases r with
  | ok a g => exact h
  | exc x g => exact fun cl dx m F H s w q => hw cl dx H (h cl dx m F H s w q)
  | stuck => exact h
/-- a call of a def of the module -/
theorem fe_call {X : Cx} {W : WX} {x : Str} {k p : Nat} {Fn : List D → G → Res D} {pp pos : Pos} {e : Expr} {es : List Expr} {tA : TA} {gA : Env → G → Res (List D)} (hf : GF X.prog X.w X.K X.mg X.base cls x k p Fn) (tk : Takes X W) (hr : Room k X.A)
    (ha : FA cls X W (e :: es) tA gA) (hg : Gl X x := by rfl) (hdb : (x == ("__debug__" : Str)) = false := by decide) (he : starEach (e :: es) X.env = (false, eval e X.env) :: starEach es X.env := by rfl) (hpl : (backTo pos (starEach es X.env)).any (·.1) = false := by rfl) :
    FE cls X W (.Call (.Name x pp) (e :: es) [] pos) (tCallS (spF X.K cls p Fn) (fun σ => WE W σ) tA) (fCall Fn gA) := by
  obtain ⟨f, fd, ps, F, hm, hk, hb⟩ := hf.ex
  refine ⟨pe_callS F hr hg hm hk hb (fun σ => passAt tk σ) ha.p hdb he hpl, fun m F0 g H env os σ Q rl h => ha.s m F0 g H env os σ _ rl (h.bind fun ds g1 vs m1 F1 H1 s1 w1 r1 h1 => ⟨?_, m1, F1, g1, ds, w1, r1, h1.wish fun cl dx H h => h⟩)⟩
  rw [r1.length]
  by_cases q : ds.length = p
  · exact q
  · rw [hf.st ds g1 q] at h1
    exact h1.elim
end
end FL

namespace FL
open PySem PySem.Spec PyProof.Rows L2 FR

/-! ### the rules as one writes them -/
section
variable (cls : Str → Addr) (X : Cx) (W : WX)
structure FG (tg : Expr) (ix : List Nat) (t : TG) (f : D → G → Env → Option Env) : Prop where
  p : PG X tg t
  s : SG X.K cls ix t f
structure FGs (tgs : List Expr) (ix : List Nat) (t : TGs) (f : List D → G → Env → Option Env) : Prop where
  p : PGs X tgs t
  s : SGs X.K cls ix t f
structure FI (tg iter : Expr) (t : TI) (f : Env → G → Res (List D)) : Prop where
  p : PI X tg iter t
  s : SI X.K cls W t f
structure FTs (ifs : List Expr) (t : TT) (f : Env → G → Res Bool) : Prop where
  p : PTs X ifs t
  s : ST X.K cls W t f
/-- a slice's part -/
structure FO (e : Option Expr) (t : TO) (f : Env → G → Res (Option Int)) : Prop where
  p : PO X e t
  s : ∀ m F g H env os σ (Q : Option Int → Hp → Prop), Rl X.K cls m F g H env os σ → Sat X.K cls W σ (fun _ _ (b : Option Int) c => b = c) ⟨m, F, g, H⟩ (f env g) Q → t σ H Q
end
def fNoPart : Env → G → Res (Option Int) := fun _ g => .ok none g
def fPart (fa : Env → G → Res D) : Env → G → Res (Option Int) := fun env g => (fa env g).bind fun d g1 => match d with
  | .int i => .ok (some i) g1
  | _ => .stuck
def fSlice (fa : Env → G → Res D) (fl fh : Env → G → Res (Option Int)) : Env → G → Res D := fun env g => (fa env g).bind fun a g1 => (fl env g1).bind fun lo g2 => (fh env g2).bind fun hi g3 => dSl a lo hi g3
def fChain (op op' : D → D → G → Res D) (fa fb fc : Env → G → Res D) : Env → G → Res D := fun env g => (fa env g).bind fun a g1 => (fb env g1).bind fun b g2 => (op a b g2).bind fun z g3 => match z with
  | .bl true => (fc env g3).bind fun c g4 => op' b c g4
  | .bl false => .ok (.bl false) g3
  | _ => .stuck
def fPar (i j : Nat) (fa : Env → G → Res (List D)) : Env → G → SRes := fun env g => match fa env g with
  | .ok [a, b] g1 => if i < env.length ∧ j < env.length then .next ((env.set i (.val a)).set j (.val b)) g1 else .stuck
  | .ok _ _ => .stuck
  | .exc x g1 => .exc x env g1
  | .stuck => .stuck

section
variable {K : PySem.W.Frag} {cls : Str → Addr} {X : Cx} {W : WX} {e a b c o i : Expr} {es : List Expr} {ta tb tc te : TE} {fa fb fc fe : Env → G → Res D} {tA tr : TA} {gA gr : Env → G → Res (List D)} {tt uu : TT} {p q : Env → G → Res Bool} {pos pp p2 : Pos} {x : Str}
theorem fe_name (i : Nat) (hN : X.N[i]? = some x := by rfl) (hv : Vis X.env.scope x := by first | exact Or.inl rfl | exact Or.inr (Or.inl rfl) | exact Or.inr (Or.inr rfl)) (hd : (x == ("__debug__" : Str)) = false := by decide)
    (hcd : (x == ("__classdict__" : Str)) = false := by decide) : FE cls X W (.Name x pos) (tVar i) (fVar i) := ⟨pe_var hN hv hd hcd, se_var i⟩
theorem fe_int {n : Int} {j} : FE cls X W (.Constant (.int n) j pos) (tC (.int n)) (fC (.int n)) := ⟨pe_int, se_c fun _ _ => .int n⟩
theorem fe_bl {n : Bool} {j} : FE cls X W (.Constant (.bool n) j pos) (tC (.bl n)) (fC (.bl n)) := ⟨pe_bl, se_c fun _ _ => .bl n⟩
theorem fe_non {j} : FE cls X W (.Constant .none j pos) (tC .non) (fC .non) := ⟨pe_non, se_c fun _ _ => .non⟩
theorem fe_str {n : Str} {j} : FE cls X W (.Constant (.str n) j pos) (tC (.str n)) (fC (.str n)) := ⟨pe_str, se_c fun _ _ => .str n⟩
theorem fe_gint {n : Int} (hm : ∃ t, X.mg x = some (.int n t)) (hg : Gl X x := by rfl) (hd : (x == ("__debug__" : Str)) = false := by decide) : FE cls X W (.Name x pos) (tC (.int n)) (fC (.int n)) := by
  obtain ⟨t, h⟩ := hm
  exact ⟨pe_glob hg h ⟨t, rfl⟩ hd, se_c fun _ _ => .int n⟩
theorem fe_gstr {n : Str} (hm : ∃ t, X.mg x = some (.str n t)) (hg : Gl X x := by rfl) (hd : (x == ("__debug__" : Str)) = false := by decide) : FE cls X W (.Name x pos) (tC (.str n)) (fC (.str n)) := by
  obtain ⟨t, h⟩ := hm
  exact ⟨pe_glob hg h ⟨t, rfl⟩ hd, se_c fun _ _ => .str n⟩
/-- a module's constant that stands for d whatever is frozen -/
theorem fe_gobj {ad : Addr} {d : D} (hm : X.mg x = some (.ref ad)) (hr : ∀ m F, Rep X.K cls m F (.ref ad) d) (hg : Gl X x := by rfl) (hd : (x == ("__debug__" : Str)) = false := by decide) : FE cls X W (.Name x pos) (tC (.ref ad)) (fC d) :=
  ⟨pe_glob hg hm rfl hd, se_c hr⟩
theorem fe_add (ha : FE cls X W a ta fa) (hb : FE cls X W b tb fb) : FE cls X W (.BinOp a .Add b pos) (tOp (rAddAll X.K) ta tb) (f2 dAdd fa fb) := ⟨pe_op op_addAll ha.p hb.p, se_op ops_add ha.s hb.s⟩
theorem fe_sub (ha : FE cls X W a ta fa) (hb : FE cls X W b tb fb) : FE cls X W (.BinOp a .Sub b pos) (tOp (rI0 fun i j => .int (i - j)) ta tb) (f2 dSub fa fb) := ⟨pe_op op_sub ha.p hb.p, se_op (ops_I _) ha.s hb.s⟩
theorem fe_mul (ha : FE cls X W a ta fa) (hb : FE cls X W b tb fb) : FE cls X W (.BinOp a .Mult b pos) (tOp (rI CMul fun i j => .int (i * j)) ta tb) (f2 dMul fa fb) := ⟨pe_op op_mul ha.p hb.p, se_op (ops_IC (C' := CMul) fun _ _ h => of_decide_eq_true (p := (-(2 ^ 64) < _ ∧ _ < 2 ^ 64) ∨ (-(2 ^ 64) < _ ∧ _ < 2 ^ 64)) h) ha.s hb.s⟩
theorem fe_mod (ha : FE cls X W a ta fa) (hb : FE cls X W b tb fb) : FE cls X W (.BinOp a .Mod b pos) (tOp (rI (fun _ j => 0 < j) fun i j => .int (i % j)) ta tb) (f2 dMod fa fb) := ⟨pe_op op_mod ha.p hb.p, se_op (ops_IC fun _ _ h => of_decide_eq_true h) ha.s hb.s⟩
theorem fe_div (ha : FE cls X W a ta fa) (hb : FE cls X W b tb fb) : FE cls X W (.BinOp a .FloorDiv b pos) (tOp (rI CDiv fun i j => .int (i / j)) ta tb) (f2 dDiv fa fb) := ⟨pe_op op_fdiv ha.p hb.p, se_op (ops_IC (C' := CDiv) fun _ _ h => of_decide_eq_true (p := 0 < _ ∧ _ < 1073741824) h) ha.s hb.s⟩
theorem fe_pow (ha : FE cls X W a ta fa) (hb : FE cls X W b tb fb) : FE cls X W (.BinOp a .Pow b pos) (tOp (rI CPow fun i j => .int (i ^ j.toNat)) ta tb) (f2 dPow fa fb) := ⟨pe_op op_pow ha.p hb.p, se_op (ops_IC (C' := CPow) fun _ _ h => of_decide_eq_true (p := 0 ≤ _ ∧ _ ≤ 1000000 ∧ Int.natAbs _ < 2 ^ 64) h) ha.s hb.s⟩
def dNeg : D → G → Res D
  | .int i, g => .ok (.int (-i)) g
  | _, _ => .stuck
theorem fe_neg (ha : FE cls X W a ta fa) : FE cls X W (.UnaryOp .USub a pos) (tUn (rU fun i => .int (-i)) ta) (f1 dNeg fa) := ⟨pe_un un_neg ha.p, se_un (fun m F g H σ Q x d w r h => by
  cases d <;> first | exact h.elim | skip
  cases r
  exact ⟨_, rfl, h.here w (.int _)⟩) ha.s⟩
/-! comparisons, as values -/
theorem fe_lt (ha : FE cls X W a ta fa) (hb : FE cls X W b tb fb) : FE cls X W (.Compare a [.Lt] [b] pos) (tOp (rI0 fun i j => .bl (decide (i < j))) ta tb) (f2 dLt fa fb) := ⟨pe_cmpR op_lt ha.p hb.p (nomark _), se_op (ops_cmp _) ha.s hb.s⟩
theorem fe_le (ha : FE cls X W a ta fa) (hb : FE cls X W b tb fb) : FE cls X W (.Compare a [.LtE] [b] pos) (tOp (rI0 fun i j => .bl (decide (i ≤ j))) ta tb) (f2 dLe fa fb) := ⟨pe_cmpR op_le ha.p hb.p (nomark _), se_op (ops_cmp _) ha.s hb.s⟩
theorem fe_gt (ha : FE cls X W a ta fa) (hb : FE cls X W b tb fb) : FE cls X W (.Compare a [.Gt] [b] pos) (tOp (rI0 fun i j => .bl (decide (j < i))) ta tb) (f2 dGt fa fb) := ⟨pe_cmpR op_gt ha.p hb.p (nomark _), se_op (ops_cmp _) ha.s hb.s⟩
theorem fe_ge (ha : FE cls X W a ta fa) (hb : FE cls X W b tb fb) : FE cls X W (.Compare a [.GtE] [b] pos) (tOp (rI0 fun i j => .bl (decide (j ≤ i))) ta tb) (f2 dGe fa fb) := ⟨pe_cmpR op_ge ha.p hb.p (nomark _), se_op (ops_cmp _) ha.s hb.s⟩
theorem fe_eq (hu : X.A.units + 64 < cLine) (ha : FE cls X W a ta fa) (hb : FE cls X W b tb fb) : FE cls X W (.Compare a [.Eq] [b] pos) (tOp (rEqAll X.K) ta tb) (f2 (dEq false) fa fb) := ⟨pe_cmpR (op_eqAll hu) ha.p hb.p (nomark _), se_op ops_eq ha.s hb.s⟩
theorem fe_ne (hu : X.A.units + 64 < cLine) (ha : FE cls X W a ta fa) (hb : FE cls X W b tb fb) : FE cls X W (.Compare a [.NotEq] [b] pos) (tOp (rNeAll X.K) ta tb) (f2 (dEq true) fa fb) := ⟨pe_cmpR (op_neAll hu) ha.p hb.p (nomark _), se_op ops_ne ha.s hb.s⟩
theorem un1 {A : Around} (h : A.units + 64 < cLine) : A.units + 1 < cLine := Nat.lt_of_le_of_lt (Nat.add_le_add_left (by decide) _) h
theorem fe_in (hu : X.A.units + 64 < cLine) (ha : FE cls X W a ta fa) (hb : FE cls X W b tb fb) (hm : behindInMarks .In b = false := by rfl) : FE cls X W (.Compare a [.In] [b] pos) (tOp (rInAll X.K false) ta tb) (f2 (dIn false) fa fb) := ⟨pe_cmpR (op_inAll (un1 hu)) ha.p hb.p hm, se_op ops_in ha.s hb.s⟩
theorem fe_notin (hu : X.A.units + 64 < cLine) (ha : FE cls X W a ta fa) (hb : FE cls X W b tb fb) (hm : behindInMarks .NotIn b = false := by rfl) : FE cls X W (.Compare a [.NotIn] [b] pos) (tOp (rInAll X.K true) ta tb) (f2 (dIn true) fa fb) := ⟨pe_cmpR (op_notinAll (un1 hu)) ha.p hb.p hm, se_op ops_in ha.s hb.s⟩
theorem fe_isN {j} (ha : FE cls X W a ta fa) : FE cls X W (.Compare a [.Is] [.Constant .none j p2] pos) (tOp (rIsN false) ta (tC .non)) (f1 (dIsN false) fa) := ⟨pe_cmpR op_isN' ha.p pe_non (nomark _), se_isN ha.s⟩
theorem fe_notN {j} (ha : FE cls X W a ta fa) : FE cls X W (.Compare a [.IsNot] [.Constant .none j p2] pos) (tOp (rIsN true) ta (tC .non)) (f1 (dIsN true) fa) := ⟨pe_cmpR op_notN' ha.p pe_non (nomark _), se_isN ha.s⟩
theorem se_chain {r r' : R2} {op op' : D → D → G → Res D} (hr : OpS K cls W r op) (hr' : OpS K cls W r' op') (ha : SE K cls W ta fa) (hb : SE K cls W tb fb) (hc : SE K cls W tc fc) : SE K cls W (tChain r r' ta tb tc) (fChain op op' fa fb fc) := fun m F g H env os σ Q rl h =>
  ha m F g H env os σ _ rl (h.bind fun a g1 x m1 F1 H1 s1 w1 r1 h1 => hb m1 F1 g1 H1 env os σ _ (rl.step s1 w1) (h1.bind fun b g2 y m2 F2 H2 s2 w2 r2 h2 => by
    refine hr m2 F2 g2 H2 σ _ x y a b w2 (Rep.mono s2.grow _ _ r1) r2 (h2.bind fun z g3 zv m3 F3 H3 s3 w3 r3 h3 => ?_)
    cases z <;> first | exact h3.elim | skip
    rename_i k
    cases r3
    refine ⟨k, rfl, ?_⟩
    cases k with
    | true =>
      rw [if_pos rfl]
      refine hc m3 F3 g3 H3 env os σ _ (((rl.step s1 w1).step s2 w2).step s3 w3) (Sat.bind (show Sat K cls W σ (Rep K cls) ⟨m3, F3, g3, H3⟩ ((fc env g3).bind fun c g4 => op' b c g4) Q from h3) fun c g4 cv m4 F4 H4 s4 w4 r4 h4 => ?_)
      exact hr' m4 F4 g4 H4 σ Q y cv b c w4 (Rep.mono (s3.trans s4).grow _ _ r2) r4 h4
    | false =>
      rw [if_neg Bool.false_ne_true]
      exact Sat.here (show Sat K cls W σ (Rep K cls) ⟨m3, F3, g3, H3⟩ (.ok (.bl false) g3) Q from h3) w3 (.bl false)))
theorem fe_leLt (ha : FE cls X W a ta fa) (hb : FE cls X W b tb fb) (hc : FE cls X W c tc fc) (hm : lastMarks [.LtE, .Lt] [b, c] = false := by with_unfolding_all rfl) : FE cls X W (.Compare a [.LtE, .Lt] [b, c] pos) (tChain (rI0 fun i j => .bl (decide (i ≤ j))) (rI0 fun i j => .bl (decide (i < j))) ta tb tc) (fChain dLe dLt fa fb fc) :=
  ⟨pe_chain op_le op_lt ha.p hb.p hc.p hm, se_chain (ops_cmp _) (ops_cmp _) ha.s hb.s hc.s⟩
theorem fe_leLe (ha : FE cls X W a ta fa) (hb : FE cls X W b tb fb) (hc : FE cls X W c tc fc) (hm : lastMarks [.LtE, .LtE] [b, c] = false := by with_unfolding_all rfl) : FE cls X W (.Compare a [.LtE, .LtE] [b, c] pos) (tChain (rI0 fun i j => .bl (decide (i ≤ j))) (rI0 fun i j => .bl (decide (i ≤ j))) ta tb tc) (fChain dLe dLe fa fb fc) :=
  ⟨pe_chain op_le op_le ha.p hb.p hc.p hm, se_chain (ops_cmp _) (ops_cmp _) ha.s hb.s hc.s⟩
/-! .. as tests -/
theorem ft_lt (ha : FE cls X W a ta fa) (hb : FE cls X W b tb fb) : FT cls X W (.Compare a [.Lt] [b] pos) (tTest (tOp (rI0 fun i j => .bl (decide (i < j))) ta tb)) (fTest (f2 dLt fa fb)) := ⟨pt_cmpR op_lt ha.p hb.p (nomark _), st_test (se_op (ops_cmp _) ha.s hb.s)⟩
theorem ft_le (ha : FE cls X W a ta fa) (hb : FE cls X W b tb fb) : FT cls X W (.Compare a [.LtE] [b] pos) (tTest (tOp (rI0 fun i j => .bl (decide (i ≤ j))) ta tb)) (fTest (f2 dLe fa fb)) := ⟨pt_cmpR op_le ha.p hb.p (nomark _), st_test (se_op (ops_cmp _) ha.s hb.s)⟩
theorem ft_gt (ha : FE cls X W a ta fa) (hb : FE cls X W b tb fb) : FT cls X W (.Compare a [.Gt] [b] pos) (tTest (tOp (rI0 fun i j => .bl (decide (j < i))) ta tb)) (fTest (f2 dGt fa fb)) := ⟨pt_cmpR op_gt ha.p hb.p (nomark _), st_test (se_op (ops_cmp _) ha.s hb.s)⟩
theorem ft_ge (ha : FE cls X W a ta fa) (hb : FE cls X W b tb fb) : FT cls X W (.Compare a [.GtE] [b] pos) (tTest (tOp (rI0 fun i j => .bl (decide (j ≤ i))) ta tb)) (fTest (f2 dGe fa fb)) := ⟨pt_cmpR op_ge ha.p hb.p (nomark _), st_test (se_op (ops_cmp _) ha.s hb.s)⟩
theorem ft_eq (hu : X.A.units + 64 < cLine) (ha : FE cls X W a ta fa) (hb : FE cls X W b tb fb) : FT cls X W (.Compare a [.Eq] [b] pos) (tTest (tOp (rEqAll X.K) ta tb)) (fTest (f2 (dEq false) fa fb)) := ⟨pt_cmpR (op_eqAll hu) ha.p hb.p (nomark _), st_test (se_op ops_eq ha.s hb.s)⟩
theorem ft_ne (hu : X.A.units + 64 < cLine) (ha : FE cls X W a ta fa) (hb : FE cls X W b tb fb) : FT cls X W (.Compare a [.NotEq] [b] pos) (tTest (tOp (rNeAll X.K) ta tb)) (fTest (f2 (dEq true) fa fb)) := ⟨pt_cmpR (op_neAll hu) ha.p hb.p (nomark _), st_test (se_op ops_ne ha.s hb.s)⟩
theorem ft_in (hu : X.A.units + 64 < cLine) (ha : FE cls X W a ta fa) (hb : FE cls X W b tb fb) (hm : behindInMarks .In b = false := by rfl) : FT cls X W (.Compare a [.In] [b] pos) (tTest (tOp (rInAll X.K false) ta tb)) (fTest (f2 (dIn false) fa fb)) := ⟨pt_cmpR (op_inAll (un1 hu)) ha.p hb.p hm, st_test (se_op ops_in ha.s hb.s)⟩
theorem ft_notin (hu : X.A.units + 64 < cLine) (ha : FE cls X W a ta fa) (hb : FE cls X W b tb fb) (hm : behindInMarks .NotIn b = false := by rfl) : FT cls X W (.Compare a [.NotIn] [b] pos) (tTest (tOp (rInAll X.K true) ta tb)) (fTest (f2 (dIn true) fa fb)) := ⟨pt_cmpR (op_notinAll (un1 hu)) ha.p hb.p hm, st_test (se_op ops_in ha.s hb.s)⟩
theorem ft_isN {j} (ha : FE cls X W a ta fa) : FT cls X W (.Compare a [.Is] [.Constant .none j p2] pos) (tTest (tOp (rIsN false) ta (tC .non))) (fTest (f1 (dIsN false) fa)) := ⟨pt_cmpR op_isN' ha.p pe_non (nomark _), st_test (se_isN ha.s)⟩
theorem ft_notN {j} (ha : FE cls X W a ta fa) : FT cls X W (.Compare a [.IsNot] [.Constant .none j p2] pos) (tTest (tOp (rIsN true) ta (tC .non))) (fTest (f1 (dIsN true) fa)) := ⟨pt_cmpR op_notN' ha.p pe_non (nomark _), st_test (se_isN ha.s)⟩
theorem ft_leLt (ha : FE cls X W a ta fa) (hb : FE cls X W b tb fb) (hc : FE cls X W c tc fc) (hm : lastMarks [.LtE, .Lt] [b, c] = false := by with_unfolding_all rfl) : FT cls X W (.Compare a [.LtE, .Lt] [b, c] pos) (tTest (tChain (rI0 fun i j => .bl (decide (i ≤ j))) (rI0 fun i j => .bl (decide (i < j))) ta tb tc)) (fTest (fChain dLe dLt fa fb fc)) :=
  ⟨pt_chain op_le op_lt ha.p hb.p hc.p hm, st_test (se_chain (ops_cmp _) (ops_cmp _) ha.s hb.s hc.s)⟩
theorem ft_leLe (ha : FE cls X W a ta fa) (hb : FE cls X W b tb fb) (hc : FE cls X W c tc fc) (hm : lastMarks [.LtE, .LtE] [b, c] = false := by with_unfolding_all rfl) : FT cls X W (.Compare a [.LtE, .LtE] [b, c] pos) (tTest (tChain (rI0 fun i j => .bl (decide (i ≤ j))) (rI0 fun i j => .bl (decide (i ≤ j))) ta tb tc)) (fTest (fChain dLe dLe fa fb fc)) :=
  ⟨pt_chain op_le op_le ha.p hb.p hc.p hm, st_test (se_chain (ops_cmp _) (ops_cmp _) ha.s hb.s hc.s)⟩
theorem ft_val (ha : FE cls X W e te fe) (he : ∀ whole, isTrue e X.env whole = (do let v ← whole; standAt e.pos; holding [v] (truthy v)) := by intro _; rfl) : FT cls X W e (L2.tB te) (fTest fe) := ⟨pt_val ha.p he, st_test ha.s⟩
theorem fw_and1 (ha : FT cls X W a tt p) : FW cls X W (.BoolOp .And [a] pos) tt p := ⟨pw_and1 ha.p, ha.s⟩
theorem fw_or1 (ha : FT cls X W a tt p) : FW cls X W (.BoolOp .Or [a] pos) tt p := ⟨pw_or1 ha.p, ha.s⟩
theorem fw_and (ha : FT cls X W a tt p) (hb : FW cls X W (.BoolOp .And (b :: es) pos) uu q) : FW cls X W (.BoolOp .And (a :: b :: es) pos) (tAnd tt uu) (fAndT p q) := ⟨pw_and ha.p hb.p, st_and ha.s hb.s⟩
theorem fw_or (ha : FT cls X W a tt p) (hb : FW cls X W (.BoolOp .Or (b :: es) pos) uu q) : FW cls X W (.BoolOp .Or (a :: b :: es) pos) (tOr tt uu) (fOrT p q) := ⟨pw_or ha.p hb.p, st_or ha.s hb.s⟩
theorem ft_w (ha : FW cls X W e tt p) : FT cls X W e tt p := ⟨ha.p.pt, ha.s⟩
theorem ft_not (ha : FT cls X W a tt p) : FT cls X W (.UnaryOp .Not a pos) (tNot tt) (fNotT p) := ⟨pt_not ha.p, st_not ha.s⟩
theorem fe_one {op} (ha : FE cls X W a ta fa) : FE cls X W (.BoolOp op [a] pos) ta fa := ⟨pe_one ha.p, ha.s⟩
theorem fe_and (ha : FE cls X W a ta fa) (hb : FE cls X W (.BoolOp .And (b :: es) pos) tb fb) : FE cls X W (.BoolOp .And (a :: b :: es) pos) (tAndV ta tb) (fAndV fa fb) := ⟨pe_and ha.p hb.p, se_andV ha.s hb.s⟩
theorem fe_or (ha : FE cls X W a ta fa) (hb : FE cls X W (.BoolOp .Or (b :: es) pos) tb fb) : FE cls X W (.BoolOp .Or (a :: b :: es) pos) (tOrV ta tb) (fOrV fa fb) := ⟨pe_or ha.p hb.p, se_orV ha.s hb.s⟩
theorem fe_not (ha : FE cls X W a ta fa) : FE cls X W (.UnaryOp .Not a pos) (tNotV ta) (fNotV fa) := ⟨pe_not ha.p, se_notV ha.s⟩
theorem fe_if (hc : FT cls X W c tt p) (ha : FE cls X W a ta fa) (hb : FE cls X W b tb fb) : FE cls X W (.IfExp c a b pos) (tIf tt ta tb) (fIf p fa fb) := ⟨pe_ifExp hc.p ha.p hb.p, se_if hc.s ha.s hb.s⟩
theorem fe_ix (hu : X.A.units + 64 < cLine) (ha : FE cls X W a ta fa) (hb : FE cls X W b tb fb) (hs : PlainIx b := by exact fun _ _ => rfl) : FE cls X W (.Subscript a b pos) (tOp (rIxAll X.K) ta tb) (f2 dIx fa fb) := ⟨pe_ix (ix_all (un1 hu)) ha.p hb.p hs, se_op ops_ix ha.s hb.s⟩
theorem fo_none : FO cls X W none tNoPart fNoPart := ⟨po_none, fun m F g H env os σ Q rl h => h.here rl.w rfl⟩
theorem fo_some (ha : FE cls X W e te fe) : FO cls X W (some e) (tPart te) (fPart fe) := ⟨po_some ha.p, fun m F g H env os σ Q rl h => ha.s m F g H env os σ _ rl (h.bind fun d g1 v m1 F1 H1 s1 w1 r1 h1 => by
  cases d <;> first | exact h1.elim | skip
  cases r1
  exact ⟨_, rfl, h1.here w1 rfl⟩)⟩
def rSlAll (K : PySem.W.Frag) : V → Option Int → Option Int → Hp → VK → Prop := fun x lo hi H Q => rSlL K x lo hi H Q ∨ rSlT K x lo hi H Q ∨ rSlT1 K x lo hi H Q ∨ rSlS x lo hi H Q
theorem sl_all : SlR X (rSlAll X.K) := sl_list.or (sl_tup.or (sl_tup1.or sl_str))
theorem cutV_rep {m : List Addr} {F : Hp} {xs : List V} {ds : List D} {lo hi : Option Int} (r : RepL K cls m F xs ds) : RepL K cls m F (cutV xs lo hi) (cutD ds lo hi) := by
  unfold cutV cutD
  rw [r.length]
  exact (r.drop _).take _
theorem sl_rep {m : List Addr} {F : Hp} {g : G} {H : Hp} {σ : L2.St} {x : V} {a : D} {lo hi : Option Int} {Q : VK} (w : World K cls m F g H) (r : Rep K cls m F x a) (h : Sat K cls W σ (Rep K cls) ⟨m, F, g, H⟩ (dSl a lo hi g) Q) : rSlAll K x lo hi H Q := by
  cases a <;> first | exact h.elim | skip
  · cases r
    simp only [dSl] at h
    split at h
    · rename_i hl
      exact .inr (.inr (.inr ⟨_, rfl, hl, h.here w (.str _)⟩))
    · exact h.elim
  · cases r with
    | tup c d =>
      rename_i pa us
      simp only [dSl] at h
      by_cases q : HT.sIx us.length 0 lo = 0 ∧ HT.sIx us.length us.length hi = us.length
      · refine .inr (.inr (.inl ⟨pa, us, rfl, sqT_mono w.fe c, q, ?_⟩))
        refine h.here w (.tup c ?_)
        rename_i xs
        have : cutD xs lo hi = xs := by
          unfold cutD
          rw [← d.length, q.1, q.2, List.drop_zero, Nat.sub_zero, d.length]
          exact List.take_length
        rw [this]
        exact d
      · exact .inr (.inl ⟨pa, us, rfl, sqT_mono w.fe c, q, fun p hp => h.new w hp (.tup sqT_new (RepL.mono (grow_new (w.hF hp)) _ _ (cutV_rep d)))⟩)
  · cases r with
    | lst c d => exact .inl ⟨_, _, rfl, SqL.of (w.fe _ _ c), fun p hp => h.new w hp (.lst upd_same (RepL.mono (grow_new (w.hF hp)) _ _ (cutV_rep d)))⟩
  · cases r with
    | scr c =>
      rename_i ns pa
      have hr : ∀ l : List Int, RepL K cls m F (l.map V.int) (l.map D.int) := fun l => by
        induction l with
        | nil => exact .nil
        | cons x l ih => exact .cons (.int x) ih
      exact .inl ⟨_, _, rfl, sqL_mono w.fe c, fun p hp => h.new w hp (.lst upd_same (RepL.mono (grow_new (w.hF hp)) _ _ (cutV_rep (hr ns))))⟩
theorem fe_slice {lo hi : Option Expr} {tl th : TO} {fl fh : Env → G → Res (Option Int)} (ha : FE cls X W e te fe) (hl : FO cls X W lo tl fl) (hh : FO cls X W hi th fh) : FE cls X W (.Subscript e (.Slice lo hi none p2) pos) (tSl (rSlAll X.K) te tl th) (fSlice fe fl fh) :=
  ⟨pe_slice sl_all ha.p hl.p hh.p, fun m F g H env os σ Q rl h => ha.s m F g H env os σ _ rl (h.bind fun a g1 x m1 F1 H1 s1 w1 r1 h1 => hl.s m1 F1 g1 H1 env os σ _ (rl.step s1 w1) (h1.bind fun lo' g2 lo'' m2 F2 H2 s2 w2 e2 h2 => hh.s m2 F2 g2 H2 env os σ _ ((rl.step s1 w1).step s2 w2) (h2.bind fun hi' g3 hi'' m3 F3 H3 s3 w3 e3 h3 => by
    subst e2 e3
    exact sl_rep w3 (Rep.mono (s2.trans s3).grow _ _ r1) h3)))⟩
theorem fa_nil : FA cls X W [] tNil fNilA := ⟨pa_nil, sa_nil⟩
theorem fa_cons (ha : FE cls X W e te fe) (hr : FA cls X W es tr gr) (hs : starEach (e :: es) X.env = (false, eval e X.env) :: starEach es X.env := by rfl) : FA cls X W (e :: es) (tCons te tr) (fConsA fe gr) := ⟨pa_cons ha.p hr.p hs, sa_cons ha.s hr.s⟩
theorem fe_tup {x1} (ha : FA cls X W es tA gA) : FE cls X W (.Tuple es x1 pos) (tTup tA) (fTup gA) := ⟨pe_tup ha.p, se_tup ha.s⟩
theorem fe_lst (ha : FA cls X W es tA gA) : FE cls X W (.List es pos) (tLst tA) (fLst gA) := ⟨pe_lst ha.p, se_lst ha.s⟩
/-! built-ins -/
theorem fe_blt {id : String} {r : List V → Hp → VK → Prop} {op : List D → G → Res D} (hc : CallR X (.builtin id) r) (hs : CallS X.K cls W r op) (hm : X.mg x = none) (hv : bootBuiltins x = some (.builtin id)) (ha : FA cls X W (e :: es) tA gA) (hg : Gl X x := by rfl) (hn : x ≠ "__name__" := by decide) (hdb : (x == ("__debug__" : Str)) = false := by decide)
    (he : starEach (e :: es) X.env = (false, eval e X.env) :: starEach es X.env := by rfl) (hpl : (backTo pos (starEach es X.env)).any (·.1) = false := by rfl) : FE cls X W (.Call (.Name x pp) (e :: es) [] pos) (tCB r tA) (fCall op gA) := ⟨pe_callB hc hg hm hv ha.p hn hdb he hpl, se_call hs ha.s⟩
theorem fe_typ {T : String} {r : List V → Hp → VK → Prop} {op : List D → G → Res D} (hc : CallR X (.type T) r) (hs : CallS X.K cls W r op) (hm : X.mg x = none) (hv : bootBuiltins x = some (.type T)) (ha : FA cls X W (e :: es) tA gA) (hg : Gl X x := by rfl) (hn : x ≠ "__name__" := by decide) (hdb : (x == ("__debug__" : Str)) = false := by decide)
    (he : starEach (e :: es) X.env = (false, eval e X.env) :: starEach es X.env := by rfl) (hpl : (backTo pos (starEach es X.env)).any (·.1) = false := by rfl) : FE cls X W (.Call (.Name x pp) (e :: es) [] pos) (tCB r tA) (fCall op gA) := ⟨pe_callTy hc hg hm hv ha.p hn hdb he hpl, se_call hs ha.s⟩
theorem bt_len : bootBuiltins "len" = some (.builtin "len") := by decide +kernel
theorem bt_abs : bootBuiltins "abs" = some (.builtin "abs") := by decide +kernel
theorem bt_all : bootBuiltins "all" = some (.builtin "all") := by decide +kernel
theorem bt_any : bootBuiltins "any" = some (.builtin "any") := by decide +kernel
theorem bt_max : bootBuiltins "max" = some (.builtin "max") := by decide +kernel
theorem bt_min : bootBuiltins "min" = some (.builtin "min") := by decide +kernel
theorem bt_isi : bootBuiltins "isinstance" = some (.builtin "isinstance") := by decide +kernel
theorem bt_int : bootBuiltins "int" = some (.type "int") := by decide +kernel
theorem bt_str : bootBuiltins "str" = some (.type "str") := by decide +kernel
theorem bt_bool : bootBuiltins "bool" = some (.type "bool") := by decide +kernel
theorem bt_list : bootBuiltins "list" = some (.type "list") := by decide +kernel
theorem bt_tuple : bootBuiltins "tuple" = some (.type "tuple") := by decide +kernel
theorem bt_dict : bootBuiltins "dict" = some (.type "dict") := by decide +kernel
theorem fe_isi1 {n : String} {x2 : Str} {p3 : Pos} (hn : n ∈ tyNames) (hm : X.mg "isinstance" = none) (hm2 : X.mg x2 = none) (hv : bootBuiltins x2 = some (.type n)) (ha : FE cls X W e te fe) (hg : Gl X "isinstance" := by rfl) (hg2 : Gl X x2 := by rfl) (hn2 : x2 ≠ "__name__" := by decide) (hd2 : (x2 == ("__debug__" : Str)) = false := by decide)
    (he : starEach (e :: [.Name x2 p3]) X.env = (false, eval e X.env) :: starEach [.Name x2 p3] X.env := by rfl) (hpl : (backTo pos (starEach [.Name x2 p3] X.env)).any (·.1) = false := by rfl) :
    FE cls X W (.Call (.Name "isinstance" pp) [e, .Name x2 p3] [] pos) (tCB (rIsi X.K) (tCons te (tCons (tC (.ty n)) tNil))) (f1 (dIsi [n]) fe) :=
  ⟨pe_callB call_isi hg hm bt_isi (pa_cons ha.p (pa_cons (pe_bltn (v := .ty n) hg2 hm2 hv rfl hn2 hd2) pa_nil) he) (by decide) (by decide) he hpl, se_isi1 hn ha.s⟩
theorem fe_isiT {ns : List String} {x1} {p3 : Pos} (hn : ∀ n ∈ ns, n ∈ tyNames) (hl : ns.length ≤ 16) (hm : X.mg "isinstance" = none) (ht : PA X es (tTys ns)) (ha : FE cls X W e te fe) (hg : Gl X "isinstance" := by rfl)
    (he : starEach (e :: [.Tuple es x1 p3]) X.env = (false, eval e X.env) :: starEach [.Tuple es x1 p3] X.env := by rfl) (hpl : (backTo pos (starEach [.Tuple es x1 p3] X.env)).any (·.1) = false := by rfl) :
    FE cls X W (.Call (.Name "isinstance" pp) [e, .Tuple es x1 p3] [] pos) (tCB (rIsiT X.K) (tCons te (tCons (tTup (tTys ns)) tNil))) (f1 (dIsi ns) fe) :=
  ⟨pe_callB call_isiT hg hm bt_isi (pa_cons ha.p (pa_cons (pe_tup ht) pa_nil) he) (by decide) (by decide) he hpl, se_isiT hn hl ha.s⟩
/-! targets, what is walked -/
theorem fg_name (i : Nat) (hN : X.N.Nodup) (hi : X.N[i]? = some x := by rfl) (hx : Loc X.env.scope x := by first | exact Or.inl rfl | exact Or.inr rfl) (hf : X.fn x = true ∨ X.env.scope.names.lookup x = some .local := by first | exact .inl rfl | exact .inr rfl) : FG cls X (.Name x pos) [i] (gName i) (gSet i) := ⟨pg_name hN hi hx hf, sg_name i⟩
theorem fgs_nil : FGs cls X [] [] gNil gNils := ⟨pgs_nil, sgs_nil⟩
theorem fgs_cons {ix jx : List Nat} {t : TG} {u : TGs} {f : D → G → Env → Option Env} {r : List D → G → Env → Option Env} (h1 : FG cls X e ix t f) (h2 : FGs cls X es jx u r) (hs : (assignEach (e :: es) X.env).map (·.2) = assign e X.env :: (assignEach es X.env).map (·.2) := by rfl) : FGs cls X (e :: es) (ix ++ jx) (gCons t u) (gConss f r) :=
  ⟨pgs_cons h1.p h2.p hs, sgs_cons h1.s h2.s⟩
theorem fg_tup {ix : List Nat} {k n : Nat} {u : TGs} {r : List D → G → Env → Option Env} (hc : X.calm = true) (h : FGs cls X es ix u r) (hn : (assignEach es X.env).length = n := by rfl) (hst : (assignEach es X.env).findIdx? (·.1) = none := by rfl) : FG cls X (.Tuple es k pos) ix (gTup X.K n u) (gTupF r n) :=
  ⟨pg_tup hc h.p hn hst, sg_tup h.s⟩
theorem fg_star {ix : List Nat} {es' : List Expr} {k n i : Nat} {u : TGs} {r : List D → G → Env → Option Env} (hc : X.calm = true) (h : FGs cls X es' ix u r) (hin : i < n) (hn : (assignEach es X.env).length = n := by rfl) (hst : (assignEach es X.env).findIdx? (·.1) = some i := by rfl) (hs : (assignEach es X.env).map (·.2) = (assignEach es' X.env).map (·.2) := by rfl) :
    FG cls X (.Tuple es k pos) ix (gStar X.K n i u) (gStarF r n i) := ⟨pg_star hc h.p hin hn hst hs, sg_star h.s⟩
theorem fi_list {tg : Expr} (ha : FE cls X W e te fe) : FI cls X W tg e (iList X.K te) (fList fe) := ⟨pi_list ha.p, si_list ha.s⟩
theorem fi_tup {tg : Expr} (ha : FE cls X W e te fe) : FI cls X W tg e (iTup X.K te) (fTupl fe) := ⟨pi_tup ha.p, si_tup ha.s⟩
def fSeqI (fa : Env → G → Res D) : Env → G → Res (List D) := fun env g => (fa env g).bind fun d g1 => match d with
  | .lst xs => .ok xs g1
  | .scr ns => .ok (ns.map D.int) g1
  | .tup xs => .ok xs g1
  | _ => .stuck
theorem pi_or {tg iter : Expr} {w1 w2 : TI} (h1 : PI X tg iter w1) (h2 : PI X tg iter w2) : PI X tg iter (fun σ H R => w1 σ H R ∨ w2 σ H R) :=
  ⟨fun pins s σ H R I h => h.elim (h1.run pins s σ H R I) (h2.run pins s σ H R I)⟩
/-- a list or a tuple -/
theorem fi_seq {tg : Expr} (ha : FE cls X W e te fe) : FI cls X W tg e (fun σ H R => iList X.K te σ H R ∨ iTup X.K te σ H R) (fSeqI fe) :=
  ⟨pi_or (pi_list ha.p) (pi_tup ha.p), fun m F g H env os σ R rl h => by
    by_cases q : ∃ xs g1, fe env g = .ok (.tup xs) g1
    · obtain ⟨xs, g1, q⟩ := q
      refine .inr (si_tup ha.s m F g H env os σ R rl ?_)
      unfold fSeqI at h
      unfold fTupl
      rw [q] at h ⊢
      exact h
    · refine .inl (si_list ha.s m F g H env os σ R rl ?_)
      unfold fSeqI at h
      unfold fList
      cases e : fe env g with
      | ok d g1 =>
        rw [e] at h
        cases d <;> first | exact h | skip
        exact absurd ⟨_, _, e⟩ q
      | exc x g1 => rw [e] at h; exact h
      | stuck => rw [e] at h; exact h⟩
theorem fi_range1 {tg : Expr} (hm : X.mg "range" = none) (ha : FA cls X W [a] tA gA) (hg : Gl X "range" := by rfl) (hs : starEach [a] X.env = [(false, eval a X.env)] := by rfl) : FI cls X W tg (.Call (.Name "range" pp) [a] [] pos) (iRng1 tA) (fRange1 gA) := ⟨pi_range1 hg hm ha.p hs, si_range1 ha.s⟩
theorem fi_range2 {tg : Expr} (hm : X.mg "range" = none) (ha : FA cls X W [a, b] tA gA) (hg : Gl X "range" := by rfl) (hs : starEach [a, b] X.env = [(false, eval a X.env), (false, eval b X.env)] := by rfl) (hs2 : starEach [b] X.env = [(false, eval b X.env)] := by rfl) : FI cls X W tg (.Call (.Name "range" pp) [a, b] [] pos) (iRng2 tA) (fRange2 gA) := ⟨pi_range2 hg hm ha.p hs hs2, si_range2 ha.s⟩
theorem fts_nil : FTs cls X W [] tYes fYes := ⟨pts_nil, fun m F g H env os σ Q rl h => h.here rl.w rfl⟩
theorem fts_one (h : FT cls X W e tt p) : FTs cls X W [e] tt p := ⟨pts_one h.p, h.s⟩
/-! comprehensions -/
/-- whatever block: a reading by the block's data -/
abbrev Blk (α : Type) := Shared → Hp → Addr → List (Str × Addr) → List Addr → α
def allE (t : Blk TE) : TE := fun σ H Q => ∀ s h C cl fp, t s h C cl fp σ H Q
def allT (t : Blk TT) : TT := fun σ H Q => ∀ s h C cl fp, t s h C cl fp σ H Q
def allG (t : Blk TG) : TG := fun v σ H Q => ∀ s h C cl fp, t s h C cl fp v σ H Q
theorem sall_e {t : Blk TE} (h : ∀ s H C cl fp, SE K cls W (t s H C cl fp) fe) : SE K cls W (allE t) fe := fun m F g H env os σ Q rl q s h' C cl fp => h s h' C cl fp m F g H env os σ Q rl q
theorem sall_t {t : Blk TT} (h : ∀ s H C cl fp, ST K cls W (t s H C cl fp) p) : ST K cls W (allT t) p := fun m F g H env os σ Q rl q s h' C cl fp => h s h' C cl fp m F g H env os σ Q rl q
theorem sall_g {t : Blk TG} {ix : List Nat} {ft : D → G → Env → Option Env} (h : ∀ s H C cl fp, SG K cls ix (t s H C cl fp) ft) : SG K cls ix (allG t) ft := fun m F g H env os σ v d Q rl r q s h' C cl fp => h s h' C cl fp m F g H env os σ v d Q rl r q
theorem fe_lc {elt tg iter : Expr} {ifs : List Expr} {scope : Scope} {own : List (Str × Nat)} {wi : TI} {fi : Env → G → Res (List D)} {g : Blk TG} {tt : Blk TT} {te : Blk TE} {ft : D → G → Env → Option Env} {fif : Env → G → Res Bool} {ix : List Nat} (hc : X.calm = true) (hN : X.N.Nodup) (hi : FI cls X W tg iter wi fi) (ok : BlkOk X.N X.env.scope scope own)
    (hg : ∀ (s : Shared) (H : Hp) (C : Addr) (cl : List (Str × Addr)) (fp : List Addr), FG cls (X.blk s H scope (compEnvC scope cl C X.env) fp) tg ix (g s H C cl fp) ft) (ht : ∀ (s : Shared) (H : Hp) (C : Addr) (cl : List (Str × Addr)) (fp : List Addr), FTs cls (X.blk s H scope (compEnvC scope cl C X.env) fp) W0 ifs (tt s H C cl fp) fif)
    (he : ∀ (s : Shared) (H : Hp) (C : Addr) (cl : List (Str × Addr)) (fp : List Addr), FE cls (X.blk s H scope (compEnvC scope cl C X.env) fp) W0 elt (te s H C cl fp) fe) (hx : ∀ j ∈ ix, j ∈ own.map (·.2)) (hs : ∀ x, foldedSetIterable iter X.env x = pure x := by intro _; rfl) :
    FE cls X W (.ListComp elt [⟨tg, iter, ifs, 0⟩] scope pos) (tLc wi (allG g) (allT tt) (allE te) (own.map (·.2))) (fLc fi ft fif fe (own.map (·.2))) :=
  ⟨pe_lc hc hN hi.p ok (fun s H C cl fp => ⟨fun pins s1 σ H1 v u Q I r q => (hg s H C cl fp).p.run pins s1 σ H1 v u Q I r (q s H C cl fp)⟩) (fun s H C cl fp => ⟨fun pins s1 σ H1 Q I q => (ht s H C cl fp).p.run pins s1 σ H1 Q I (q s H C cl fp)⟩) (fun s H C cl fp => ⟨fun pins s1 σ H1 Q I q => (he s H C cl fp).p.run pins s1 σ H1 Q I (q s H C cl fp)⟩) hs,
    se_lc hi.s (sall_g fun s H C cl fp => (hg s H C cl fp).s) (sall_t fun s H C cl fp => (ht s H C cl fp).s) (sall_e fun s H C cl fp => (he s H C cl fp).s) hx⟩
/-! statements -/
variable {st : Stmt} {sts : List Stmt} {t u : TS} {f1 f2 : Env → G → SRes}
theorem fss_nil : FSs cls X W [] tNext fNext := ⟨pss_nil, ss_next⟩
theorem fss_cons (h1 : FS cls X W st t f1) (h2 : FSs cls X W sts u f2) : FSs cls X W (st :: sts) (tSeq t u) (fSeq f1 f2) := ⟨pss_cons h1.p h2.p, ss_seq h1.s h2.s⟩
theorem fss_one (h1 : FS cls X W st t f1) : FSs cls X W [st] t f1 := ⟨pss_one h1.p, h1.s⟩
theorem fss_frz (i : Nat) (h : FSs cls X W sts t f1) : FSs cls X W sts t (fFrz i f1) := ⟨h.p, ss_frz h.s⟩
theorem fs_pass : FS cls X W (.Pass pos) tNext fNext := ⟨ps_pass, ss_next⟩
theorem fs_expr (h : FE cls X W e te fe) (hs : swapsWith e none pos.line X.env = pure false := by rfl) : FS cls X W (.Expr e pos) (tDrop te) (fExpr fe) := ⟨ps_expr h.p hs, ss_expr h.s⟩
theorem fs_ret (h : FE cls X W e te fe) : FS cls X W (.Return (some e) pos) (tRet te) (fRet fe) := ⟨ps_ret h.p, ss_ret h.s⟩
theorem fs_retN : FS cls X W (.Return none pos) tRetN fRetN := ⟨ps_retN, ss_retN⟩
theorem fs_if {cc : Expr} (hc : FT cls X W cc tt p) (h1 : FSs cls X W sts t f1) {els : List Stmt} (h2 : FSs cls X W els u f2) : FS cls X W (.If cc sts els pos) (tIfS tt t u) (fIfS p f1 f2) := ⟨ps_if hc.p h1.p h2.p, ss_if hc.s h1.s h2.s⟩
theorem fs_set (i : Nat) (hN : X.N.Nodup) (h : FE cls X W e te fe) (hi : X.N[i]? = some x := by rfl) (hx : Loc X.env.scope x := by first | exact Or.inl rfl | exact Or.inr rfl) (hs : swapsWith e (some (.Name x pp)) pos.line X.env = pure false := by rfl) (hf : X.fn x = true ∨ X.env.scope.names.lookup x = some .local := by first | exact .inl rfl | exact .inr rfl) :
    FS cls X W (.Assign [.Name x pp] e pos) (tAsg te (gName i)) (fAsg fe (gSet i)) := ⟨ps_set hN hi hx h.p hs hf, ss_asg h.s (sg_name i)⟩
theorem fs_asg {tg : Expr} {ix : List Nat} {g : TG} {ft : D → G → Env → Option Env} (h : FE cls X W e te fe) (hg : FG cls X tg ix g ft) (hs : swapsWithSole [tg] e pos.line X.env = pure false := by rfl) (hw : swappedStores [tg] e X.env = pure none := by rfl)
    (h1 : (assignEach [tg] X.env).map (·.2) = [assign tg X.env] := by rfl) : FS cls X W (.Assign [tg] e pos) (tAsg te g) (fAsg fe ft) := ⟨ps_asg h.p hg.p hs hw h1, ss_asg h.s hg.s⟩
theorem fs_store (hu : X.A.units + 64 < cLine) {tpos : Pos} (h : FE cls X W e te fe) (ho : FE cls X W o ta fa) (hi : FE cls X W i tb fb) (hs : swapsWithSole [.Subscript o i tpos] e pos.line X.env = pure false := by rfl) (hw : swappedStores [.Subscript o i tpos] e X.env = pure none := by rfl)
    (h1 : (assignEach [.Subscript o i tpos] X.env).map (·.2) = [assign (.Subscript o i tpos) X.env] := by rfl)
    (ha : ∀ v, assign (.Subscript o i tpos) X.env v = (do
      let ov ← holding [v] (eval o X.env)
      let iv ← holding [v, ov] (eval i X.env)
      standAt tpos
      holding [v, ov, iv] (setItem ov iv v)
      release [v, ov, iv] []) := by intro _; rfl) : FS cls X W (.Assign [.Subscript o i tpos] e pos) (tAsg te (gSub ta tb rSetAll)) (fStore fe fa fb) := ⟨ps_asg h.p (pg_sub ho.p hi.p (set_all (un1 hu)) ha) hs hw h1, ss_store h.s ho.s hi.s⟩
theorem fs_setL (i : Nat) (hN : X.N.Nodup) {p3 : Pos} (h : FA cls X W es tA gA) (hi : X.N[i]? = some x := by rfl) (hx : Loc X.env.scope x := by first | exact Or.inl rfl | exact Or.inr rfl) (hs : swapsWith (.List es p3) (some (.Name x pp)) pos.line X.env = pure false := by rfl) (hf : X.fn x = true ∨ X.env.scope.names.lookup x = some .local := by first | exact .inl rfl | exact .inr rfl) :
    FS cls X W (.Assign [.Name x pp] (.List es p3) pos) (tAsg (tLst tA) (gName i)) (fSetL gA i) := ⟨ps_set hN hi hx (pe_lst h.p) hs hf, ss_setL h.s⟩
theorem fs_for {tg iter : Expr} {wi : TI} {fi : Env → G → Res (List D)} {ix : List Nat} {g : TG} {ft : D → G → Env → Option Env} (hp : PassesOwn (model X.prog X.w) X.A X.env X.xe) (hc : X.calm = true) (hi : FI cls X W tg iter wi fi) (hg : FG cls X tg ix g ft) (hb : FSs cls X W sts t f1)
    (hs : ∀ x, foldedSetIterable iter X.env x = pure x := by intro _; rfl) : FS cls X W (.For tg iter sts [] pos) (tFor wi g t) (fFor fi ft f1) := ⟨ps_for hp hc hi.p hg.p hb.p hs, ss_for hi.s hg.s hb.s⟩
theorem fs_while (n : Nat) {cc : Expr} (hp : PassesOwn (model X.prog X.w) X.A X.env X.xe) (hc : FT cls X W cc tt p) (hb : FSs cls X W sts t f1) : FS cls X W (.While cc sts [] pos) (tWhile tt t) (whileF p f1 n) := ⟨ps_while hp hc.p hb.p, ss_while n hc.s hb.s⟩
theorem fs_setLc {i : Nat} {y : Str} {py spos : Pos} {elt tg iter : Expr} {ifs : List Expr} {scope : Scope} {own : List (Str × Nat)} {wi : TI} {fi : Env → G → Res (List D)} {g : Blk TG} {tt : Blk TT} {te : Blk TE} {ft : D → G → Env → Option Env} {fif : Env → G → Res Bool} {ix : List Nat} (hc : X.calm = true) (hN : X.N.Nodup)
    (hsw : swapsWith (.ListComp elt [⟨tg, iter, ifs, 0⟩] scope pos) (some (.Name y py)) spos.line X.env = pure true) (hi : FI cls X W tg iter wi fi) (ok : BlkOk X.N X.env.scope scope own)
    (hg : ∀ (s : Shared) (H : Hp) (C : Addr) (cl : List (Str × Addr)) (fp : List Addr), FG cls (X.blk s H scope (compEnvC scope cl C X.env) fp) tg ix (g s H C cl fp) ft) (ht : ∀ (s : Shared) (H : Hp) (C : Addr) (cl : List (Str × Addr)) (fp : List Addr), FTs cls (X.blk s H scope (compEnvC scope cl C X.env) fp) W0 ifs (tt s H C cl fp) fif)
    (he : ∀ (s : Shared) (H : Hp) (C : Addr) (cl : List (Str × Addr)) (fp : List Addr), FE cls (X.blk s H scope (compEnvC scope cl C X.env) fp) W0 elt (te s H C cl fp) fe) (hx : ∀ j ∈ ix, j ∈ own.map (·.2)) (hy : X.N[i]? = some y := by rfl) (hyl : X.env.scope.names.lookup y = some .local := by rfl) (hs : ∀ x, foldedSetIterable iter X.env x = pure x := by intro _; rfl) :
    FS cls X W (.Assign [.Name y py] (.ListComp elt [⟨tg, iter, ifs, 0⟩] scope pos) spos) (tAsg (tLc wi (allG g) (allT tt) (allE te) (own.map (·.2))) (gName i)) (fAsg (fLc fi ft fif fe (own.map (·.2))) (gSet i)) :=
  ⟨ps_setLc hc hN hy hyl hsw hi.p ok (fun s H C cl fp => ⟨fun pins s1 σ H1 v u Q I r q => (hg s H C cl fp).p.run pins s1 σ H1 v u Q I r (q s H C cl fp)⟩) (fun s H C cl fp => ⟨fun pins s1 σ H1 Q I q => (ht s H C cl fp).p.run pins s1 σ H1 Q I (q s H C cl fp)⟩) (fun s H C cl fp => ⟨fun pins s1 σ H1 Q I q => (he s H C cl fp).p.run pins s1 σ H1 Q I (q s H C cl fp)⟩) hs,
    ss_asg (se_lc hi.s (sall_g fun s H C cl fp => (hg s H C cl fp).s) (sall_t fun s H C cl fp => (ht s H C cl fp).s) (sall_e fun s H C cl fp => (he s H C cl fp).s) hx) (sg_name i)⟩
theorem ss_par {i j : Nat} (ha : SA K cls W tA gA) : SS K cls W (tPar i j tA) (fPar i j gA) := fun B D m F g H env os σ rl h => by
  have h2 : SatS K cls W B m F D (match gA env g with
    | .ok ds g1 => (match ds with
      | [a, b] => if i < env.length ∧ j < env.length then .next ((env.set i (.val a)).set j (.val b)) g1 else .stuck
      | _ => .stuck)
    | .exc x g1 => .exc x env g1
    | .stuck => .stuck) := by
    unfold fPar at h
    cases e : gA env g with
    | ok ds g1 =>
      simp only [e] at h
      match ds, h with
      | [a, b], h => exact h
      | [], h => exact h
      | [_], h => exact h
      | _ :: _ :: _ :: _, h => exact h
    | exc x g1 => simp only [e] at h; exact h
    | stuck => simp only [e] at h; exact h
  refine ha m F g H env os σ _ rl.r (sat_a (k := fun ds g1 => match ds with
    | [a, b] => if i < env.length ∧ j < env.length then .next ((env.set i (.val a)).set j (.val b)) g1 else .stuck
    | _ => .stuck) rl h2 fun ds g1 vs m1 F1 H1 s r1 q h1 => ?_)
  split at h1
  · obtain ⟨x, y, rfl, q1, q2⟩ := repL2 q
    split at h1
    · rename_i hl
      refine ⟨x, y, rfl, h1 m1 F1 H1 _ _ (Grow.refl _ _) ⟨(r1.r.set q1 hl.1).set q2 (by simpa using hl.2), r1.st, fun a l e => ?_⟩⟩
      have e' : (if a = j then none else if a = i then none else os a) = some l := e
      split at e'
      · cases e'
      · split at e'
        · cases e'
        · exact r1.own a l e'
    · exact h1.elim
  · exact h1.elim
theorem fs_par (i j : Nat) {y : Str} {px py pt : Pos} {kt k2 : Nat} {pt2} (hc : X.calm = true) (hN : X.N.Nodup) (ha : FA cls X W [a, b] tA gA) (hij : i ≠ j) (hi : X.N[i]? = some x := by rfl) (hj : X.N[j]? = some y := by rfl)
    (hx : X.env.scope.names.lookup x = some .local := by rfl) (hy : X.env.scope.names.lookup y = some .local := by rfl)
    (hw : swappedStores [.Tuple [.Name x px, .Name y py] kt pt] (.Tuple [a, b] k2 pt2) X.env = pure (some [x, y]) := by rfl)
    (hs : swapsWithSole [.Tuple [.Name x px, .Name y py] kt pt] (.Tuple [a, b] k2 pt2) pos.line X.env = pure false := by rfl) :
    FS cls X W (.Assign [.Tuple [.Name x px, .Name y py] kt pt] (.Tuple [a, b] k2 pt2) pos) (tPar i j tA) (fPar i j gA) := ⟨ps_par hc hN hi hj hij hx hy ha.p hw hs, ss_par ha.s⟩
end
end FL

namespace FL
open PySem PySem.Spec PyProof.Rows L2 FR

/-! ### zip and enumerate over lists and tuples alike -/
def SqB (K : PySem.W.Frag) : Bool → Hp → Addr → List V → Prop
  | false, H, a, xs => SqL K H a xs
  | true, H, a, xs => SqT K H a xs
def IterB : Bool → Heap → Addr → Addr → Nat → Prop
  | false, h, it, a, i => h.IsListIter it a i
  | true, h, it, a, i => h.IsTupleIter it a i
def IsB : Bool → Heap → Addr → Array Value → Prop
  | false, h, a, its => h.IsList a its
  | true, h, a, its => h.IsTuple a its
def itO : Bool → Addr → Obj
  | false, l => { cls := .type "list_iterator", data := .fields #[.ref l, .int 0 0] }
  | true, l => { cls := .type "tuple_iterator", data := .fields #[.ref l, .int 0 0] }
theorem drawsB {prog : Program} {w : PySem.World} {A : Around} (hh : A.handled = none) : ∀ (b : Bool) (it l : Addr), l ≠ it → ∀ items : Array Value, Draws prog w A it [it, l] items.size (fun i v => items[i]? = some v) (fun i h => IterB b h it l i ∧ IsB b h l items)
  | false, it, l, hne, items => Draws.list hh it l hne items
  | true, it, l, hne, items => Draws.tuple hh it l hne items
theorem beginsB : ∀ (b : Bool) (l : Addr) (items : Array Value), Begins (.ref l) (itO b l) fun h => IsB b h l items
  | false, l, items => begins_list l items
  | true, l, items => begins_tuple l items
theorem iterB_new {b : Bool} {h : Heap} {it l : Addr} (e : h.get? it = some (itO b l)) : IterB b h it l 0 := by
  cases b <;> exact ⟨_, e, rfl, rfl⟩
theorem iterB_obj {b : Bool} {h : Heap} {it l : Addr} {i : Nat} (x : IterB b h it l i) : ∃ o, h.get? it = some o ∧ ∀ v, o.data ≠ .cell v := by
  cases b with
  | false => obtain ⟨o, e, _, d⟩ := x; exact ⟨o, e, fun v z => by rw [d] at z; cases z⟩
  | true => obtain ⟨o, e, _, d⟩ := x; exact ⟨o, e, fun v z => by rw [d] at z; cases z⟩
theorem iterB_at {b : Bool} {h h' : Heap} {it l : Addr} {i : Nat} (x : IterB b h it l i) (e : ∀ o, h.get? it = some o → h'.get? it = some o) : IterB b h' it l i := by
  cases b with
  | false => exact Heap.IsListIter.at x e
  | true => exact Heap.IsTupleIter.at x e
section
variable {X : Cx} {pins : List (Addr × Obj)} {σ : L2.St} {H : Hp} {s : Shared} {a : Addr} {xs ys : List V}
theorem Inv.sq {b : Bool} (I : Inv X pins σ H s) (h : SqB X.K b H a xs) : ∃ its : List Value, Vals xs its ∧ IsB b s.heap a its.toArray ∧ a < s.heap.objs.size := by
  cases b with
  | false => obtain ⟨its, r, p, _⟩ := I.list h; exact ⟨its, r, p.isList, p.lt⟩
  | true =>
    obtain ⟨its, r, p, _⟩ := I.tuple h
    obtain ⟨o, e, c⟩ := p
    exact ⟨its, r, ⟨o, e, c⟩, Heap.lt_size e⟩
theorem Inv.sq_inj {b : Bool} (I : Inv X pins σ H s) (h : SqB X.K b H a xs) (h' : SqB X.K b H a ys) : xs = ys := by
  cases b with
  | false => exact I.list_inj h h'
  | true => exact I.tuple_inj h h'
end
/-- the sequences at a and b as they stand at each turn, the items in new pairs -/
def ItzB (K : PySem.W.Frag) (p q : Bool) (a b : Addr) : It :=
  ⟨fun i H => ∃ (xs ys : List V) (x y : V), SqB K p H a xs ∧ SqB K q H b ys ∧ xs[i]? = some x ∧ ys[i]? = some y,
    fun i H v H' => ∃ T x y, v = .ref T ∧ H T = none ∧ H' = upd H T (.tup [x, y]) ∧ (∀ xs, SqB K p H a xs → xs[i]? = some x) ∧ ∀ ys, SqB K q H b ys → ys[i]? = some y,
    fun i H => ∃ xs ys : List V, SqB K p H a xs ∧ SqB K q H b ys ∧ (i = xs.length ∧ i ≤ ys.length ∨ i ≤ xs.length ∧ i = ys.length)⟩
theorem turn_zipB {P : Program} {w : PySem.World} {K : PySem.W.Frag} {elts : List Expr} {kk : Nat} {tpos : Pos} {p q : Bool} {a b z TI TO i1 i2 : Addr} (D : ZipSep2 z TI TO i1 i2 [i1, a] [i2, b]) :
    Turn P w K (.Tuple elts kk tpos) (ItzB K p q a b) [z, TI, TO, i1, i2] z (fun i h => IsZip h z TI TO .none ∧ IsTupOf2 h TI (.ref i1) (.ref i2) ∧ (∃ x y, IsTupOf2 h TO x y) ∧ IterB p h i1 a i ∧ IterB q h i2 b i) where
  mem := by simp
  obj := fun i h st c hc => by
    obtain ⟨hz, hTI, ⟨x, y, hTO⟩, h1, h2⟩ := st
    have e' : c = z ∨ c = TI ∨ c = TO ∨ c = i1 ∨ c = i2 := by simpa using hc
    rcases e' with q | q | q | q | q
    · rw [q]; exact ⟨_, hz, fun v q => nomatch q⟩
    · rw [q]; exact ⟨_, hTI, fun v q => nomatch q⟩
    · rw [q]; exact ⟨_, hTO, fun v q => nomatch q⟩
    · rw [q]; exact iterB_obj h1
    · rw [q]; exact iterB_obj h2
  keep := fun i h h' st k => by
    obtain ⟨hz, hTI, ⟨x, y, hTO⟩, h1, h2⟩ := st
    exact ⟨k z (by simp) _ hz, k TI (by simp) _ hTI, ⟨x, y, k TO (by simp) _ hTO⟩, iterB_at h1 fun o q => k i1 (by simp) o q, iterB_at h2 fun o q => k i2 (by simp) o q⟩
  item := by
    intro X hP hw hK hc i pins s σ H E I hf st hg
    subst hP hw hK
    obtain ⟨hz, hTI, ⟨x0, y0, hTO⟩, h1, h2⟩ := st
    obtain ⟨xs, ys, x, y, hqx, hqy, hx, hy⟩ := hg
    obtain ⟨its, rv, pp, _⟩ := Inv.sq I hqx
    obtain ⟨its2, rv2, pp2, _⟩ := Inv.sq I hqy
    obtain ⟨u, hu, ru⟩ := rv.get hx
    obtain ⟨u2, hu2, ru2⟩ := rv2.get hy
    have hzl : z < s.heap.objs.size := Heap.lt_size hz
    have l1 : i < its.toArray.size := by rw [List.size_toArray]; exact (List.getElem?_eq_some_iff.mp hu).1
    have l2 : i < its2.toArray.size := by rw [List.size_toArray]; exact (List.getElem?_eq_some_iff.mp hu2).1
    have hh : X.A.in1.handled = none := I.ok.hd hc
    have na : a ≠ i1 := fun e => by
      cases p with
      | false =>
        obtain ⟨o1, e1, c1, d1⟩ := h1
        obtain ⟨_, _, pl, _⟩ := I.list hqx
        obtain ⟨o, n, e2, c2, _⟩ := pl
        rw [e] at e2
        rw [e1] at e2; cases e2
        rw [c1] at c2
        simp at c2
      | true =>
        obtain ⟨o1, e1, c1, d1⟩ := h1
        obtain ⟨_, _, pl, _⟩ := I.tuple hqx
        obtain ⟨o, e2, c2, _⟩ := pl
        rw [e] at e2
        rw [e1] at e2; cases e2
        rw [c1] at c2
        simp at c2
    have nb : b ≠ i2 := fun e => by
      cases q with
      | false =>
        obtain ⟨o1, e1, c1, d1⟩ := h2
        obtain ⟨_, _, pl, _⟩ := I.list hqy
        obtain ⟨o, n, e2, c2, _⟩ := pl
        rw [e] at e2
        rw [e1] at e2; cases e2
        rw [c1] at c2
        simp at c2
      | true =>
        obtain ⟨o1, e1, c1, d1⟩ := h2
        obtain ⟨_, _, pl, _⟩ := I.tuple hqy
        obtain ⟨o, e2, c2, _⟩ := pl
        rw [e] at e2
        rw [e1] at e2; cases e2
        rw [c1] at c2
        simp at c2
    refine wpAny_pyNext_zipD2_item D (drawsB hh p i1 a na its.toArray) (drawsB hh q i2 b nb its2.toArray) hz hTI hTO ⟨h1, pp⟩ ⟨h2, pp2⟩ l1 l2 fun w1 w2 h' tk e1 e2 z' TO' h1' h2' hT hsz hk => ?_
    have w1u : w1 = u := by
      have : its.toArray[i]? = some u := by simpa using hu
      rw [this] at e1; exact (Option.some.inj e1).symm
    have w2u : w2 = u2 := by
      have : its2.toArray[i]? = some u2 := by simpa using hu2
      rw [this] at e2; exact (Option.some.inj e2).symm
    subst w1u w2u
    refine ⟨_, rfl, wpAny_letOwnedTupleGo_zip (s := { s with heap := h', toks := tk }) z' fun h'' z'' sb => ?_⟩
    have hT2 : h''.get? s.heap.objs.size = some { cls := .type "tuple", data := .seq #[w1, w2] } := (sb.2 _ (Nat.ne_of_gt hzl)).trans hT
    have new : ObjOk X.prog X.w (upd H s.heap.objs.size (.tup [x, y])) h'' s.heap.objs.size (.tup [x, y]) :=
      ⟨by show 2 ≤ sizeLine; decide, [w1, w2], .cons ru (.cons ru2 .nil), ⟨_, hT2, rfl, _, rfl⟩⟩
    have I1 : Inv X pins σ (upd H s.heap.objs.size (.tup [x, y])) { s with heap := h'', toks := tk } :=
      I.turnedNew (ch := [z, TI, TO, i1, i2]) (fun c o hb q => (sb.2 c (fun q' => hb (by simp [q']))).trans (hk c o (fun q' => hb (by simp [q'])) (fun q' => hb (by simp [q'])) (fun q' => hb (by simp [q'])) (fun q' => hb (by simp [q'])) q)) hf (Nat.le_refl _) new
    refine ⟨.ref s.heap.objs.size, _, I1, rfl, ⟨_, x, y, rfl, I.hok.fresh (Nat.le_refl _), rfl, fun l hl => by rw [Inv.sq_inj I hl hqx]; exact hx, fun l hl => by rw [Inv.sq_inj I hl hqy]; exact hy⟩, ⟨z'', ?_, ⟨w1, w2, ?_⟩, ?_, ?_⟩, fun c hcm => ?_⟩
    · exact (sb.2 _ D.TIz).trans (hk _ _ D.TIz D.TITO D.TIi1 D.TIi2 hTI)
    · exact (sb.2 _ D.TOz).trans TO'
    · exact iterB_at h1'.1 fun o q => (sb.2 _ (Ne.symm D.zi1)).trans q
    · exact iterB_at h2'.1 fun o q => (sb.2 _ (Ne.symm D.zi2)).trans q
    · have hlt : c < s.heap.objs.size := by
        have e' : c = z ∨ c = TI ∨ c = TO ∨ c = i1 ∨ c = i2 := by simpa using hcm
        rcases e' with q | q | q | q | q
        · rw [q]; exact hzl
        · rw [q]; exact Heap.lt_size hTI
        · rw [q]; exact Heap.lt_size hTO
        · rw [q]; obtain ⟨_, e1, _⟩ := iterB_obj h1; exact Heap.lt_size e1
        · rw [q]; obtain ⟨_, e2, _⟩ := iterB_obj h2; exact Heap.lt_size e2
      rw [upd_ne (Nat.ne_of_lt hlt)]
      exact (hf c hcm).1
  done := by
    intro X hP hw hK hc i pins s σ H E I hf st hg
    subst hP hw hK
    obtain ⟨hz, hTI, ⟨x0, y0, hTO⟩, h1, h2⟩ := st
    obtain ⟨xs, ys, hqx, hqy, hend⟩ := hg
    obtain ⟨its, rv, pp, _⟩ := Inv.sq I hqx
    obtain ⟨its2, rv2, pp2, _⟩ := Inv.sq I hqy
    have l1 := rv.length
    have l2 := rv2.length
    have hh : X.A.in1.handled = none := I.ok.hd hc
    have na : a ≠ i1 := fun e => by
      cases p with
      | false =>
        obtain ⟨o1, e1, c1, d1⟩ := h1
        obtain ⟨_, _, pl, _⟩ := I.list hqx
        obtain ⟨o, n, e2, c2, _⟩ := pl
        rw [e] at e2
        rw [e1] at e2; cases e2
        rw [c1] at c2
        simp at c2
      | true =>
        obtain ⟨o1, e1, c1, d1⟩ := h1
        obtain ⟨_, _, pl, _⟩ := I.tuple hqx
        obtain ⟨o, e2, c2, _⟩ := pl
        rw [e] at e2
        rw [e1] at e2; cases e2
        rw [c1] at c2
        simp at c2
    have nb : b ≠ i2 := fun e => by
      cases q with
      | false =>
        obtain ⟨o1, e1, c1, d1⟩ := h2
        obtain ⟨_, _, pl, _⟩ := I.list hqy
        obtain ⟨o, n, e2, c2, _⟩ := pl
        rw [e] at e2
        rw [e1] at e2; cases e2
        rw [c1] at c2
        simp at c2
      | true =>
        obtain ⟨o1, e1, c1, d1⟩ := h2
        obtain ⟨_, _, pl, _⟩ := I.tuple hqy
        obtain ⟨o, e2, c2, _⟩ := pl
        rw [e] at e2
        rw [e1] at e2; cases e2
        rw [c1] at c2
        simp at c2
    exact wpAny_pyNext_zipD2_end D (drawsB hh p i1 a na its.toArray) (drawsB hh q i2 b nb its2.toArray) hz hTI hTO ⟨h1, pp⟩ ⟨h2, pp2⟩ (by rw [List.size_toArray]; omega) (by rw [List.size_toArray]; omega) (by rw [List.size_toArray, List.size_toArray]; omega)
      fun h' tk hk => ⟨rfl, I.turnedL (t' := tk) (ch := [z, TI, TO, i1, i2]) (fun c o hb q =>
      hk c o (fun q' => hb (by simp [q'])) (fun q' => hb (by simp [q'])) (fun q' => hb (by simp [q'])) (fun q' => hb (by simp [q'])) q) hf⟩
  self := fun A i s Q E st h => wpAny_pyIter_zip st.1 h
def iZipB (K : PySem.W.Frag) (ta : TA) : TI := fun σ H R => ta σ H fun vs H1 => ∃ p q a b xs ys, vs = [.ref a, .ref b] ∧ SqB K p H1 a xs ∧ SqB K q H1 b ys ∧ R (ItzB K p q a b) H1
theorem pi_zipB {X : Cx} {e e2 : Expr} {ta : TA} {p pos tpos : Pos} {elts : List Expr} {kk : Nat} (hg : Gl X "zip") (hm : X.mg "zip" = none) (ha : PA X [e, e2] ta)
    (hs : starEach [e, e2] X.env = (false, eval e X.env) :: starEach [e2] X.env := by rfl) (hpl : (backTo pos (starEach [e2] X.env)).any (·.1) = false := by rfl) :
    PI X (.Tuple elts kk tpos) (.Call (.Name "zip" p) [e, e2] [] pos) (iZipB X.K ta) := by
  refine ⟨fun pins s σ H R I h => ?_⟩
  refine Call_ (ld_blt I hg hm PyProof.Rows.boot_zip (PyProof.Rows.callWith_type1 (thn (ha.run pos pins s σ H _ I h) fun us s1 ⟨vs, H1, I1, r1, q1⟩ => ?_) hs hpl))
  obtain ⟨p, q, a, b, xs, ys, ex, hqx, hqy, hR⟩ := q1
  subst ex
  cases r1 with
  | cons r rr =>
    cases rr with
    | cons r' rr =>
      cases rr
      cases r
      cases r'
      obtain ⟨its, rv, p1, la⟩ := Inv.sq I1 hqx
      obtain ⟨its2, rv2, p2, lb⟩ := Inv.sq I1 hqy
      refine zip_begins2 (beginsB p a its.toArray) (beginsB q b its2.toArray) p1 p2 fun h' hz hTI hTO h1 h2 hsz hk => wpAny_pyIter_zip hz ?_
      have I2 : Inv X pins σ H1 { s1 with heap := h' } := I1.kept (t' := s1.toks) hk
      refine ⟨s1.heap.objs.size + 4, [s1.heap.objs.size + 4, s1.heap.objs.size + 2, s1.heap.objs.size + 3, s1.heap.objs.size, s1.heap.objs.size + 1], _, _, H1, rfl, I2,
        turn_zipB (zip_sep2 (fp1 := [a]) (fp2 := [b]) (fun c hc => by rw [List.mem_singleton.mp hc]; exact la) (fun c hc => by rw [List.mem_singleton.mp hc]; exact lb)), ⟨hz, hTI, ⟨_, _, hTO⟩, iterB_new h1, iterB_new h2⟩, fun c hcm => ?_, hR⟩
      have e' : c = s1.heap.objs.size + 4 ∨ c = s1.heap.objs.size + 2 ∨ c = s1.heap.objs.size + 3 ∨ c = s1.heap.objs.size ∨ c = s1.heap.objs.size + 1 := by simpa using hcm
      have hle : s1.heap.objs.size ≤ c := by
        rcases e' with z | z | z | z | z
        · rw [z]; exact Nat.le_add_right _ _
        · rw [z]; exact Nat.le_add_right _ _
        · rw [z]; exact Nat.le_add_right _ _
        · rw [z]; exact Nat.le_refl _
        · rw [z]; exact Nat.le_add_right _ _
      exact I1.fpOk hle (I1.hok.fresh hle)
/-! enumerate -/
def IteB (K : PySem.W.Frag) (p : Bool) (a : Addr) : It :=
  ⟨fun i H => ∃ (xs : List V) (x : V), SqB K p H a xs ∧ xs[i]? = some x, fun i H v H' => ∃ T x, v = .ref T ∧ H T = none ∧ H' = upd H T (.tup [.int (i : Nat), x]) ∧ ∀ xs, SqB K p H a xs → xs[i]? = some x, fun i H => ∃ xs : List V, SqB K p H a xs ∧ xs.length = i⟩
theorem turn_enumB {P : Program} {w : PySem.World} {K : PySem.W.Frag} {elts : List Expr} {kk : Nat} {tpos : Pos} {p : Bool} (a e it : Addr) (hea : e ≠ a) :
    Turn P w K (.Tuple elts kk tpos) (IteB K p a) [e, it] e (fun i h => (∃ old, IsEnum h e it ((i : Nat) : Int) old) ∧ IterB p h it a i ∧ e ≠ it) where
  mem := by simp
  obj := fun i h st b hb => by
    obtain ⟨⟨old, he⟩, h1, _⟩ := st
    have e' : b = e ∨ b = it := by simpa using hb
    rcases e' with z | z
    · rw [z]; exact ⟨_, he, fun v q => nomatch q⟩
    · rw [z]; exact iterB_obj h1
  keep := fun i h h' st k => let ⟨⟨old, he⟩, hi, hne⟩ := st; ⟨⟨old, k e (by simp) _ he⟩, iterB_at hi fun o q => k it (by simp) o q, hne⟩
  item := by
    intro X hP hw hK hc i pins s σ H E I hf st hg
    subst hP hw hK
    obtain ⟨⟨old, he⟩, hit, hne⟩ := st
    obtain ⟨xs, x, hq, hx⟩ := hg
    obtain ⟨its, rv, pp, _⟩ := Inv.sq I hq
    obtain ⟨u, hu, ru⟩ := rv.get hx
    have hel : e < s.heap.objs.size := Heap.lt_size he
    have hil : it < s.heap.objs.size := by obtain ⟨_, q, _⟩ := iterB_obj hit; exact Heap.lt_size q
    have hh : X.A.in1.handled = none := I.ok.hd hc
    have na : a ≠ it := fun e0 => by
      cases p with
      | false =>
        obtain ⟨o1, e1, c1, d1⟩ := hit
        obtain ⟨_, _, pl, _⟩ := I.list hq
        obtain ⟨o, n, e2, c2, _⟩ := pl
        rw [e0] at e2
        rw [e1] at e2; cases e2
        rw [c1] at c2
        simp at c2
      | true =>
        obtain ⟨o1, e1, c1, d1⟩ := hit
        obtain ⟨_, _, pl, _⟩ := I.tuple hq
        obtain ⟨o, e2, c2, _⟩ := pl
        rw [e0] at e2
        rw [e1] at e2; cases e2
        rw [c1] at c2
        simp at c2
    refine wpAny_pyNext_enum_itemC (drawsB hh p it a na its.toArray) he ⟨hit, pp⟩ (by rw [List.size_toArray]; exact (List.getElem?_eq_some_iff.mp hu).1) hne (by simp [hne, hea]) fun w1 h' tk e1 ho hit' hT hsz hk => ?_
    have w1u : w1 = u := by
      have : its.toArray[i]? = some u := by simpa using hu
      rw [this] at e1; exact (Option.some.inj e1).symm
    subst w1u
    refine ⟨_, rfl, wpAny_letOwnedTupleGo_enum (s := { s with heap := h', toks := tk + 1 }) ho fun h'' he' sb => ?_⟩
    have hT2 : h''.get? s.heap.objs.size = some { cls := .type "tuple", data := .seq #[.int i tk, w1] } := (sb.2 _ (Nat.ne_of_gt hel)).trans hT
    have new : ObjOk X.prog X.w (upd H s.heap.objs.size (.tup [.int (i : Nat), x])) h'' s.heap.objs.size (.tup [.int (i : Nat), x]) :=
      ⟨by show 2 ≤ sizeLine; decide, [.int i tk, w1], .cons ⟨_, rfl⟩ (.cons ru .nil), ⟨_, hT2, rfl, _, rfl⟩⟩
    have I1 : Inv X pins σ (upd H s.heap.objs.size (.tup [.int (i : Nat), x])) { s with heap := h'', toks := tk + 1 } :=
      I.turnedNew (ch := [e, it]) (fun b ob hb q => (sb.2 b (fun z => hb (by simp [z]))).trans (hk b ob (fun z => hb (by simp [z])) (fun z => hb (by simp [z])) q)) hf (Nat.le_refl _) new
    refine ⟨.ref s.heap.objs.size, _, I1, rfl, ⟨_, x, rfl, I.hok.fresh (Nat.le_refl _), rfl, fun ys hy => by rw [Inv.sq_inj I hy hq]; exact hx⟩, ⟨⟨w1, ?_⟩, iterB_at hit'.1 fun o q => (sb.2 it (Ne.symm hne)).trans q, hne⟩, fun b hb => ?_⟩
    · have e1 : ((i + 1 : Nat) : Int) = (i : Int) + 1 := by omega
      rw [e1]; exact he'
    · have hb' : b < s.heap.objs.size := by
        have e' : b = e ∨ b = it := by simpa using hb
        rcases e' with z | z
        · rw [z]; exact hel
        · rw [z]; exact hil
      rw [upd_ne (Nat.ne_of_lt hb')]
      exact (hf b hb).1
  done := by
    intro X hP hw hK hc i pins s σ H E I hf st hg
    subst hP hw hK
    obtain ⟨⟨old, he⟩, hit, hne⟩ := st
    obtain ⟨xs, hq, hx⟩ := hg
    obtain ⟨its, rv, pp, _⟩ := Inv.sq I hq
    obtain ⟨f0, f1, f2, f3, f4, f5⟩ := hf it (by simp)
    have hl := rv.length
    have hh : X.A.in1.handled = none := I.ok.hd hc
    have na : a ≠ it := fun e0 => by
      cases p with
      | false =>
        obtain ⟨o1, e1, c1, d1⟩ := hit
        obtain ⟨_, _, pl, _⟩ := I.list hq
        obtain ⟨o, n, e2, c2, _⟩ := pl
        rw [e0] at e2
        rw [e1] at e2; cases e2
        rw [c1] at c2
        simp at c2
      | true =>
        obtain ⟨o1, e1, c1, d1⟩ := hit
        obtain ⟨_, _, pl, _⟩ := I.tuple hq
        obtain ⟨o, e2, c2, _⟩ := pl
        rw [e0] at e2
        rw [e1] at e2; cases e2
        rw [c1] at c2
        simp at c2
    refine wpAny_pyNext_enum_endD (drawsB hh p it a na its.toArray) he ?_ fun h' eb => ⟨rfl, I.turned (t' := s.toks) (fun b o hb q => eb b o hb q) f0 f1 f3 f4 f5⟩
    have : its.toArray.size = i := by rw [List.size_toArray]; omega
    rw [this]
    exact ⟨hit, pp⟩
  self := fun A i s Q E st h => let ⟨⟨_, he⟩, _⟩ := st; wpAny_pyIter_enum he h
end FL

namespace PySem
open Sem (wp)
theorem meets_enumerate_new1B {v : Value} {o : Obj} {H : Heap → Prop} (B : Begins v o H) :
    Meets (Builtin.«enumerate.__new__» ⟨[.type "enumerate", v], []⟩) (fun _ R s => H s.heap ∧
      R (.ok (.ret (.ref (s.heap.push o).objs.size))) { s with heap := (s.heap.push o).push { cls := .type "enumerate", data := .fields #[.none, .bool false, .ref s.heap.objs.size, rawInt 0, .none, .none] } }) :=
  .of_wp fun prog w A R s h => by
    obtain ⟨hp, g, d, tk, os⟩ := s; obtain ⟨h1, h⟩ := h
    have hsub := sub_enumerate
    have q1 : ∀ {A' : Around} {E : Value → Shared → Prop} {Q : Value → Shared → Prop}, Q (.ref hp.objs.size) ⟨hp.push o, g, d, tk, os⟩ → wpAny (model prog w) A' (pyIter v) Q E ⟨hp, g, d, tk, os⟩ :=
      fun q => B.iter prog w _ _ ⟨hp, g, d, tk, os⟩ _ h1 q
    wp_walk using q1
    refine wpAny_stack_any fun st => wpAny_pure ?_
    split
    · rename_i c _ _ _ _ _
      cases (c == Value.type "enumerate")
      · wp_walk using q1
        exact ⟨_, rfl, h⟩
      · wp_walk using q1
        exact ⟨_, rfl, h⟩
    · wp_walk using q1
      exact ⟨_, rfl, h⟩
theorem enum_begins1 {prog : Program} {w : World} {A : Around} {E : Value → Shared → Prop} {s : Shared} {v : Value} {o : Obj} {H : Heap → Prop} {Q : Value → Shared → Prop} (B : Begins v o H) (h1 : H s.heap)
    (h : ∀ h', IsEnum h' (s.heap.objs.size + 1) s.heap.objs.size 0 .none → h'.get? s.heap.objs.size = some o → h'.objs.size = s.heap.objs.size + 2 →
      (∀ b o, s.heap.get? b = some o → h'.get? b = some o) → Q (.ref (s.heap.objs.size + 1)) { s with heap := h' }) :
    wpAny (model prog w) A (call (.type "enumerate") [v]) Q E s := by
  refine callType_new F.called_enumerate (by decide) (F.typeCall_enumerate_1 _) (F.newCall_enumerate_1 _) (fun obj => F.args_object_init_2 obj _) F.entry_enumerate_new
    (meets_enumerate_new1B B) ⟨h1, ?_⟩
  have hz : (s.heap.push o).objs.size = s.heap.objs.size + 1 := Heap.size_push ..
  show _ ∧ _
  rw [hz]
  have he : IsEnum ((s.heap.push o).push { cls := .type "enumerate", data := .fields #[.none, .bool false, .ref s.heap.objs.size, rawInt 0, .none, .none] }) (s.heap.objs.size + 1) s.heap.objs.size 0 .none := by
    have := Heap.get?_push_size (s.heap.push o) (o := { cls := .type "enumerate", data := .fields #[.none, .bool false, .ref s.heap.objs.size, rawInt 0, .none, .none] }) rfl
    rw [hz] at this; exact this
  refine ⟨⟨_, he, rfl⟩, h _ he (Heap.get?_push_of_some _ (Heap.get?_push_size _ B.free)) (by rw [Heap.size_push, hz]) fun b o x => Heap.get?_push_of_some _ (Heap.get?_push_of_some _ x)⟩
end PySem
namespace FL
open PySem PySem.Spec PyProof.Rows L2 FR
def iEnumB (K : PySem.W.Frag) (ta : TA) : TI := fun σ H R => ta σ H fun vs H1 => ∃ p a xs, vs = [.ref a] ∧ SqB K p H1 a xs ∧ R (IteB K p a) H1
theorem pi_enumB {X : Cx} {e : Expr} {ta : TA} {p pos tpos : Pos} {elts : List Expr} {kk : Nat} (hg : Gl X "enumerate") (hm : X.mg "enumerate" = none) (ha : PA X [e] ta) (hs : starEach [e] X.env = [(false, eval e X.env)] := by rfl) :
    PI X (.Tuple elts kk tpos) (.Call (.Name "enumerate" p) [e] [] pos) (iEnumB X.K ta) := by
  refine ⟨fun pins s σ H R I h => ?_⟩
  refine Call_ (ld_blt I hg hm boot_enumerate (PyProof.Rows.callWith_type1 (thn (ha.run pos pins s σ H _ I h) fun us s1 ⟨vs, H1, I1, r1, q1⟩ => ?_) hs rfl))
  obtain ⟨p, a, xs, ex, hq, hR⟩ := q1
  subst ex
  cases r1 with
  | cons r rr =>
    cases rr
    cases r
    obtain ⟨its, rv, pp, la⟩ := Inv.sq I1 hq
    refine enum_begins1 (beginsB p a its.toArray) pp fun h' he hit hsz hk => wpAny_pyIter_enum he ?_
    have I2 : Inv X pins σ H1 { s1 with heap := h' } := I1.kept (t' := s1.toks) hk
    refine ⟨s1.heap.objs.size + 1, [s1.heap.objs.size + 1, s1.heap.objs.size], _, _, H1, rfl, I2, turn_enumB a (s1.heap.objs.size + 1) s1.heap.objs.size (Nat.ne_of_gt (Nat.lt_succ_of_lt la)), ⟨⟨.none, he⟩, iterB_new hit, Nat.succ_ne_self _⟩, fun b hb => ?_, hR⟩
    have e' : b = s1.heap.objs.size + 1 ∨ b = s1.heap.objs.size := by simpa using hb
    have hle : s1.heap.objs.size ≤ b := by
      rcases e' with z | z
      · rw [z]; exact Nat.le_add_right _ _
      · rw [z]; exact Nat.le_refl _
    exact I1.fpOk hle (I1.hok.fresh hle)
section
variable {K : PySem.W.Frag} {cls : Str → Addr} {W : WX} {m : List Addr} {F : Hp} {g : G} {H : Hp} {env : Env} {os : Nat → Option Addr} {σ : L2.St} {tA : TA} {gA : Env → G → Res (List D)}
theorem sqB_of {v : V} {d : D} {ds : List D} (w : World K cls m F g H) (r : Rep K cls m F v d) (e : seqD g d = some ds) (nr : ∀ n, d ≠ .ref n) : ∃ p a xs, v = .ref a ∧ SqB K p H a xs ∧ RepL K cls m F xs ds ∧ ∀ m2 F2 g2 H2, Grow m F m2 F2 → World K cls m2 F2 g2 H2 → SqB K p H2 a xs := by
  cases r with
  | tup a b => cases e; exact ⟨true, _, _, rfl, sqT_mono w.fe a, b, fun m2 F2 g2 H2 gr w2 => sqT_mono (fun x o q => w2.fe _ _ (gr.F _ _ q)) a⟩
  | lst a b => cases e; exact ⟨false, _, _, rfl, SqL.of (w.fe _ _ a), b, fun m2 F2 g2 H2 gr w2 => SqL.of (w2.fe _ _ (gr.F _ _ a))⟩
  | scr a =>
    cases e
    rename_i p ns
    have : ∀ l : List Int, RepL K cls m F (l.map V.int) (l.map D.int) := fun l => by
      induction l with
      | nil => exact .nil
      | cons x l ih => exact .cons (.int x) ih
    exact ⟨false, _, _, rfl, sqL_mono w.fe a, this ns, fun m2 F2 g2 H2 gr w2 => sqL_mono (fun x o q => w2.fe _ _ (gr.F _ _ q)) a⟩
  | ref a => exact absurd rfl (nr _)
  | _ => cases e
/-- a sequence that stays, by its items -/
def seqF : D → Option (List D)
  | .tup xs => some xs
  | .lst xs => some xs
  | .scr ns => some (ns.map D.int)
  | _ => none
theorem seqF_seqD {d : D} {ds : List D} (g : G) (e : seqF d = some ds) : seqD g d = some ds ∧ ∀ n, d ≠ .ref n := by
  cases d <;> first | (cases e; exact ⟨rfl, fun _ z => by cases z⟩) | cases e
def zipD : List D → List D → List D
  | x :: xs, y :: ys => .tup [x, y] :: zipD xs ys
  | _, _ => []
theorem zipD_length : ∀ xs ys : List D, (zipD xs ys).length = min xs.length ys.length
  | [], _ => by simp [zipD]
  | _ :: _, [] => by simp [zipD]
  | x :: xs, y :: ys => by simp only [zipD, List.length_cons, zipD_length xs ys]; omega
theorem zipD_get : ∀ (xs ys : List D) (i : Nat) (x y : D), xs[i]? = some x → ys[i]? = some y → (zipD xs ys)[i]? = some (.tup [x, y])
  | x :: xs, y :: ys, 0, _, _, e1, e2 => by simp at e1 e2; subst e1 e2; rfl
  | x :: xs, y :: ys, i + 1, _, _, e1, e2 => by
    simp only [List.getElem?_cons_succ] at e1 e2
    simp only [zipD, List.getElem?_cons_succ]
    exact zipD_get xs ys i _ _ e1 e2
  | [], _, _, _, _, e1, _ => by simp at e1
  | _ :: _, [], _, _, _, _, e2 => by simp at e2
def enumD (n : Nat) : List D → List D
  | [] => []
  | x :: xs => .tup [.int n, x] :: enumD (n + 1) xs
theorem enumD_length : ∀ (n : Nat) (xs : List D), (enumD n xs).length = xs.length
  | _, [] => rfl
  | n, x :: xs => by simp [enumD, enumD_length (n + 1) xs]
theorem enumD_get : ∀ (xs : List D) (n i : Nat) (x : D), xs[i]? = some x → (enumD n xs)[i]? = some (.tup [.int ((n + i : Nat) : Int), x])
  | x :: xs, n, 0, _, e => by simp at e; subst e; rfl
  | x :: xs, n, i + 1, _, e => by
    simp only [List.getElem?_cons_succ] at e
    simp only [enumD, List.getElem?_cons_succ]
    have := enumD_get xs (n + 1) i _ e
    rw [this]
    congr 5
    omega
  | [], _, _, _, e => by simp at e
def fZip (fa : Env → G → Res (List D)) : Env → G → Res (List D) := fun env g => (fa env g).bind fun ds g1 => match ds with
  | [a, b] => match seqF a, seqF b with
    | some xs, some ys => .ok (zipD xs ys) g1
    | _, _ => .stuck
  | _ => .stuck
def fEnum (fa : Env → G → Res (List D)) : Env → G → Res (List D) := fun env g => (fa env g).bind fun ds g1 => match ds with
  | [a] => match seqF a with
    | some xs => .ok (enumD 0 xs) g1
    | none => .stuck
  | _ => .stuck
theorem get_of {xs : List V} {ds : List D} {i : Nat} {x : V} (r : RepL K cls m F xs ds) (e : xs[i]? = some x) : ∃ d, ds[i]? = some d ∧ Rep K cls m F x d := by
  have hi : i < ds.length := by rw [← r.length]; exact (List.getElem?_eq_some_iff.mp e).1
  have hd : ds[i]? = some ds[i] := by simp [hi]
  obtain ⟨v, h1, h2⟩ := r.get hd
  rw [e] at h1
  cases h1
  exact ⟨_, hd, h2⟩
theorem si_zip (ha : SA K cls W tA gA) : SI K cls W (iZipB K tA) (fZip gA) := fun m F g H env os σ R rl h =>
  ha m F g H env os σ _ rl (h.bind fun ds g1 vs m1 F1 H1 s1 w1 q h1 => by
    split at h1
    · obtain ⟨x, y, rfl, r1, r2⟩ := repL2 q
      split at h1
      · rename_i xs ys e1 e2
        obtain ⟨p, a, us, rfl, q1, l1, k1⟩ := sqB_of w1 r1 (seqF_seqD g1 e1).1 (seqF_seqD g1 e1).2
        obtain ⟨p', b, us', rfl, q2, l2, k2⟩ := sqB_of w1 r2 (seqF_seqD g1 e2).1 (seqF_seqD g1 e2).2
        refine ⟨p, p', a, b, us, us', rfl, q1, q2, h1.here w1 ?_⟩
        refine ⟨fun H2 => SqB K p H2 a us ∧ SqB K p' H2 b us', YPair (fun i => us[i]?) (fun i => us'[i]?), ?_, fun m2 F2 g2 H2 gr w2 => ⟨k1 m2 F2 g2 H2 gr w2, k2 m2 F2 g2 H2 gr w2⟩, fun i m2 F2 g2 H2 x H3 hi gr w2 y => ?_⟩
        · rw [zipD_length, ← l1.length, ← l2.length]
          refine ⟨fun i _ hi q => ?_, fun _ q => ⟨us, us', q.1, q.2, by omega⟩, fun i H v H' _ q y => ?_⟩
          · have h1 : i < us.length := by omega
            have h2 : i < us'.length := by omega
            exact ⟨us, us', us[i], us'[i], q.1, q.2, by simp [h1], by simp [h2]⟩
          · obtain ⟨T, x, z, h1, h2, h3, h4, h5⟩ := y
            exact ⟨T, x, z, h1, h2, h3, h4 us q.1, h5 us' q.2⟩
        · obtain ⟨T, x, z, rfl, hT, rfl, e3, e4⟩ := y
          obtain ⟨d1, hd1, rd1⟩ := get_of l1 e3
          obtain ⟨d2, hd2, rd2⟩ := get_of l2 e4
          obtain ⟨w3, s3⟩ := w2.new (o := .tup [x, z]) hT
          refine ⟨_, s3, w3, .tup [d1, d2], zipD_get xs ys i d1 d2 hd1 hd2, .tup sqT_new (.cons (Rep.mono (gr.trans s3.grow) _ _ rd1) (.cons (Rep.mono (gr.trans s3.grow) _ _ rd2) .nil))⟩
      · exact h1.elim
    · exact h1.elim)
theorem si_enum (ha : SA K cls W tA gA) : SI K cls W (iEnumB K tA) (fEnum gA) := fun m F g H env os σ R rl h =>
  ha m F g H env os σ _ rl (h.bind fun ds g1 vs m1 F1 H1 s1 w1 q h1 => by
    split at h1
    · obtain ⟨x, rfl, r1⟩ := repL1 q
      split at h1
      · rename_i xs e1
        obtain ⟨p, a, us, rfl, q1, l1, k1⟩ := sqB_of w1 r1 (seqF_seqD g1 e1).1 (seqF_seqD g1 e1).2
        refine ⟨p, a, us, rfl, q1, h1.here w1 ?_⟩
        refine ⟨fun H2 => SqB K p H2 a us, YPair (fun i => some (.int (i : Nat))) (fun i => us[i]?), ?_, fun m2 F2 g2 H2 gr w2 => k1 m2 F2 g2 H2 gr w2, fun i m2 F2 g2 H2 x H3 hi gr w2 y => ?_⟩
        · rw [enumD_length, ← l1.length]
          refine ⟨fun i _ hi q => ⟨us, us[i], q, by simp [hi]⟩, fun _ q => ⟨us, q, rfl⟩, fun i H v H' _ q y => ?_⟩
          obtain ⟨T, x, h1, h2, h3, h4⟩ := y
          exact ⟨T, .int (i : Nat), x, h1, h2, h3, rfl, h4 us q⟩
        · obtain ⟨T, x, z, rfl, hT, rfl, e3, e4⟩ := y
          obtain ⟨d2, hd2, rd2⟩ := get_of l1 e4
          have e3' : x = .int (i : Nat) := (Option.some.inj e3).symm
          subst e3'
          obtain ⟨w3, s3⟩ := w2.new (o := .tup [.int (i : Nat), z]) hT
          refine ⟨_, s3, w3, .tup [.int ((0 + i : Nat) : Int), d2], enumD_get xs 0 i d2 hd2, ?_⟩
          rw [Nat.zero_add]
          exact .tup sqT_new (.cons (.int _) (.cons (Rep.mono (gr.trans s3.grow) _ _ rd2) .nil))
      · exact h1.elim
    · exact h1.elim)

/-! ### new cells -/
theorem liveAt_push {g : G} {c : Cell} {p a : Addr} (hl : m.length = g.length) : LiveAt (m ++ [p]) (g ++ [c]) a → LiveAt m g a ∨ a = p := fun ⟨n, c', h1, h2, h3⟩ => by
  by_cases hn : n < g.length
  · rw [List.getElem?_append_left hn] at h1
    rw [List.getElem?_append_left (by omega)] at h3
    exact .inl ⟨n, c', h1, h2, h3⟩
  · rw [List.getElem?_append_right (by omega)] at h3
    rcases List.getElem?_eq_some_iff.mp h3 with ⟨h4, h5⟩
    simp at h5
    exact .inr h5.symm
theorem World.cell (w : World K cls m F g H) {p : Addr} {o : HO} {c : Cell} (hp : H p = none) (hd : c ≠ .dead) (hc : CellR K cls (m ++ [p]) F (upd H p o) p c) :
    World K cls (m ++ [p]) F (g ++ [c]) (upd H p o) ∧ Step ⟨m, F, g, H⟩ (m ++ [p]) F (g ++ [c]) (upd H p o) := by
  have gr : Grow m F (m ++ [p]) F := ⟨fun n a h => by rw [List.getElem?_append_left (List.getElem?_eq_some_iff.mp h).1]; exact h, fun _ _ h => h⟩
  have ne : ∀ a, LiveAt m g a → a ≠ p := fun a l z => l.tracked w (z ▸ hp)
  have spl : ∀ (n : Nat) (e : Cell) (a : Addr), (g ++ [c])[n]? = some e → (m ++ [p])[n]? = some a → (g[n]? = some e ∧ m[n]? = some a) ∨ (n = g.length ∧ e = c ∧ a = p) := fun n e a h1 h2 => by
    have hl := w.len
    by_cases hn : n < g.length
    · rw [List.getElem?_append_left hn] at h1
      rw [List.getElem?_append_left (by omega)] at h2
      exact .inl ⟨h1, h2⟩
    · rw [List.getElem?_append_right (by omega)] at h1 h2
      obtain ⟨h3, h4⟩ := List.getElem?_eq_some_iff.mp h1
      obtain ⟨h5, h6⟩ := List.getElem?_eq_some_iff.mp h2
      simp at h3 h4 h6
      exact .inr ⟨by omega, h4.symm, h6.symm⟩
  refine ⟨⟨by simp [w.len], fun n e a h1 h2 => ?_, fun n e a h1 h2 h3 => ?_, fun n n' e e' a h1 h2 h3 h4 h5 h6 => ?_, fun a u e => ?_⟩, ⟨gr, fun a u e _ => ?_, fun a h q => absurd q h, fun a l => ?_, fun a h => up_none h⟩⟩
  · rcases spl n e a h1 h2 with ⟨h3, h4⟩ | ⟨_, rfl, rfl⟩
    · by_cases hdd : e = .dead
      · subst hdd; trivial
      · exact CellR.mono gr (upd_ne (ne a ⟨n, e, h3, hdd, h4⟩)) (w.at_ n e a h3 h4)
    · exact hc
  · rcases spl n e a h1 h3 with ⟨h4, h5⟩ | ⟨_, rfl, rfl⟩
    · exact w.nf n e a h4 h2 h5
    · exact w.hF hp
  · rcases spl n e a h1 h5 with ⟨h7, h8⟩ | ⟨h7, _, rfl⟩
    · rcases spl n' e' a h3 h6 with ⟨h9, h10⟩ | ⟨h9, _, rfl⟩
      · exact w.inj n n' e e' a h7 h2 h9 h4 h8 h10
      · exact absurd rfl (ne _ ⟨n, e, h7, h2, h8⟩)
    · rcases spl n' e' a h3 h6 with ⟨h9, h10⟩ | ⟨h9, _, _⟩
      · exact absurd rfl (ne _ ⟨n', e', h9, h4, h10⟩)
      · rw [h7, h9]
  · rw [upd_ne (ne_of_none e (w.hF hp))]
    exact w.fe a u e
  · rw [upd_ne (ne_of_none e hp)]
    exact e
  · rcases liveAt_push w.len l with h | rfl
    · exact .inl h
    · exact .inr hp
/-- [..], to be changed in place -/
def fCellL (fa : Env → G → Res (List D)) : Env → G → Res D := fun env g => (fa env g).bind fun ds g1 => if ds.length ≤ sizeLine then .ok (.ref g1.length) (g1 ++ [.lst ds]) else .stuck
theorem Sat.cell {m : List Addr} {F : Hp} {g : G} {H : Hp} {p : Addr} {o : HO} {c : Cell} {Q : VK} (h : Sat K cls W σ (Rep K cls) ⟨m, F, g, H⟩ (.ok (.ref g.length) (g ++ [c])) Q) (w : World K cls m F g H) (hp : H p = none) (hd : c ≠ .dead) (hc : CellR K cls (m ++ [p]) F (upd H p o) p c) : Q (.ref p) (upd H p o) :=
  h _ (m ++ [p]) F _ (w.cell hp hd hc).2 (w.cell hp hd hc).1 (.ref (by rw [← w.len, List.getElem?_append_right (Nat.le_refl _), Nat.sub_self]; rfl))
theorem grow_push {m : List Addr} {F : Hp} {p : Addr} : Grow m F (m ++ [p]) F := ⟨fun n a h => by rw [List.getElem?_append_left (List.getElem?_eq_some_iff.mp h).1]; exact h, fun _ _ h => h⟩
theorem se_cellL (ha : SA K cls W tA gA) : SE K cls W (tLst tA) (fCellL gA) := fun m F g H env os σ Q rl h =>
  ha m F g H env os σ _ rl (h.bind fun ds g1 xs m1 F1 H1 s1 w1 r1 h1 => by
    split at h1
    · rename_i hl
      refine ⟨by rw [r1.length]; exact hl, fun p hp => Sat.cell h1 w1 hp (fun z => by cases z) ⟨xs, upd_same, RepL.mono grow_push _ _ r1⟩⟩
    · exact h1.elim)
/-! ### dict displays -/
theorem Step.keep {p : Addr} {o : HO} {m' : List Addr} {F' : Hp} {g' : G} {H' : Hp} (s : Step ⟨m, F, g, H⟩ m' F' g' H') (hA : H p = some o) (fA : F p = none) (lA : ¬ LiveAt m g p) : H' p = some o ∧ F' p = none ∧ ¬ LiveAt m' g' p := by
  refine ⟨s.fr p _ hA lA, ?_, fun z => ?_⟩
  · cases z : F' p with
    | none => rfl
    | some u =>
      rcases s.nF p (by rw [z]; exact fun y => by cases y) fA with y | y
      · have y' : H p = none := y
        rw [hA] at y'; cases y'
      · exact absurd y lA
  · rcases s.nL p z with y | y
    · exact lA y
    · have y' : H p = none := y
      rw [hA] at y'; cases y'
abbrev FPair := (Env → G → Res D) × (Env → G → Res D)
def fPairs : List FPair → Env → G → Res (List (D × D))
  | [], _, g => .ok [] g
  | (fk, fv) :: r, env, g => (fk env g).bind fun k g1 => (fv env g1).bind fun v g2 => (fPairs r env g2).bind fun ps g3 => .ok ((k, v) :: ps) g3
def RepP (m : List Addr) (F : Hp) (ps : List (V × V)) (ds : List (D × D)) : Prop := RepL K cls m F (ps.map (·.1)) (ds.map (·.1)) ∧ RepL K cls m F (ps.map (·.2)) (ds.map (·.2))
def SP (K : PySem.W.Frag) (cls : Str → Addr) (W : WX) (trs : List (TE × TE)) (f : Env → G → Res (List (D × D))) : Prop := ∀ m F g H env os σ (Q : List (V × V) → Hp → Prop), Rl K cls m F g H env os σ → Sat K cls W σ (RepP (K := K) (cls := cls)) ⟨m, F, g, H⟩ (f env g) Q → tPairs trs σ H Q
theorem sp_nil : SP K cls W [] (fPairs []) := fun m F g H env os σ Q rl h => h.here rl.w ⟨.nil, .nil⟩
theorem sp_cons {tk tv : TE} {fk fv : Env → G → Res D} {trs : List (TE × TE)} {fr : List FPair} (hk : SE K cls W tk fk) (hv : SE K cls W tv fv) (hr : SP K cls W trs (fPairs fr)) : SP K cls W ((tk, tv) :: trs) (fPairs ((fk, fv) :: fr)) := fun m F g H env os σ Q rl h =>
  hk m F g H env os σ _ rl (h.bind fun k g1 kv m1 F1 H1 s1 w1 r1 h1 => hv m1 F1 g1 H1 env os σ _ (rl.step s1 w1) (h1.bind fun v g2 vv m2 F2 H2 s2 w2 r2 h2 => hr m2 F2 g2 H2 env os σ _ ((rl.step s1 w1).step s2 w2) (h2.bind fun ps g3 vs m3 F3 H3 s3 w3 r3 h3 =>
    h3.here w3 ⟨.cons (Rep.mono (s2.trans s3).grow _ _ r1) r3.1, .cons (Rep.mono s3.grow _ _ r2) r3.2⟩)))
/-- int and text keys -/
def keysD : List (D × D) → Option (List (Key × D))
  | [] => some []
  | (k, v) :: r => match keyD k, keysD r with
    | some k', some r' => some ((k', v) :: r')
    | _, _ => none
def mergeD (kvs more : List (Key × D)) : List (Key × D) := more.foldl (fun acc kv => setK acc kv.1 kv.2) kvs
theorem keysD_rep : ∀ {ds : List (D × D)} {ps : List (V × V)} {kvs : List (Key × D)}, RepP (K := K) (cls := cls) m F ps ds → keysD ds = some kvs → ∃ kv : List (Key × V), ps = kv.map (fun x => (kV x.1, x.2)) ∧ RepK K cls m F kv kvs
  | [], ps, kvs, r, e => by
    cases e
    cases ps with
    | nil => exact ⟨[], rfl, .nil⟩
    | cons a b => obtain ⟨r1, _⟩ := r; cases r1
  | (k, v) :: ds, ps, kvs, r, e => by
    cases ps with
    | nil => obtain ⟨r1, _⟩ := r; cases r1
    | cons a b =>
      obtain ⟨r1, r2⟩ := r
      cases r1 with
      | cons q1 r1 =>
        cases r2 with
        | cons q2 r2 =>
          unfold keysD at e
          split at e
          · rename_i k' r' e1 e2
            cases e
            obtain ⟨kv, rfl, rk⟩ := keysD_rep ⟨r1, r2⟩ e2
            have := key_rep q1 e1
            refine ⟨(k', a.2) :: kv, ?_, .cons q2 rk⟩
            rw [List.map_cons]
            congr 1
            exact Prod.ext this rfl
          · cases e
theorem mergeD_rep : ∀ {more : List (Key × D)} {mv : List (Key × V)} {kvs : List (Key × D)} {kv : List (Key × V)}, RepK K cls m F mv more → RepK K cls m F kv kvs → RepK K cls m F (mergeK kv mv) (mergeD kvs more)
  | [], _, _, _, r, q => by cases r; exact q
  | (k, d) :: more, _, kvs, kv, r, q => by
    cases r with
    | @cons _ v _ mv _ a b => exact (mergeD_rep (more := more) (mv := mv) (kvs := setK kvs k d) (kv := putK kv k v) b (putK_rep a q) :)
def fDisp (prs : List FPair) : Env → G → Res D := fun env g => (fPairs prs env g).bind fun ps g1 => match keysD ps with
  | some kvs => if kvs.length ≤ 15 then .ok (.dct (mergeD [] kvs)) g1 else .stuck
  | none => .stuck
theorem repK_length2 {xs : List (Key × V)} {ds : List (Key × D)} (r : RepK K cls m F xs ds) : xs.length = ds.length := repK_length r
theorem se_disp {trs : List (TE × TE)} {prs : List FPair} (hp : SP K cls W trs (fPairs prs)) : SE K cls W (tDisp trs) (fDisp prs) := fun m F g H env os σ Q rl h => by
  intro p hn
  have nF := rl.w.hF hn
  have nL : ¬ LiveAt m g p := fun l => l.tracked rl.w hn
  have s0 : Step ⟨m, F, g, H⟩ m F g (upd H p (.dK [])) := (Step.refl _ _ _ _).wr hn
  have w0 : World K cls m F g (upd H p (.dK [])) := rl.w.wr nF nL
  refine hp m F g _ env os σ _ (rl.step s0 w0) ?_
  have h' : Sat K cls W σ (Rep K cls) ⟨m, F, g, H⟩ ((fPairs prs env g).bind fun ps g1 => match keysD ps with
    | some kvs => if kvs.length ≤ 15 then .ok (.dct (mergeD [] kvs)) g1 else .stuck
    | none => .stuck) Q := h
  cases e : fPairs prs env g with
  | stuck => rw [e] at h'; exact h'.elim
  | exc x g1 => rw [e] at h'; exact fun cl dx m1 F1 H1 s w q => h' cl dx m1 F1 H1 (s0.trans s) w q
  | ok ps g1 =>
    rw [e] at h'
    simp only [Res.bind_ok] at h'
    intro vs m1 F1 H1 s w q
    cases ek : keysD ps with
    | none => simp only [ek] at h'; exact h'.elim
    | some kvs =>
      simp only [ek] at h'
      split at h'
      · rename_i hl
        obtain ⟨k1, k2, k3⟩ := s.keep upd_same nF nL
        obtain ⟨kv, rfl, rk⟩ := keysD_rep q ek
        refine ⟨k1, kv, rfl, by rw [repK_length rk]; exact hl, ?_⟩
        have s1 := s0.trans s
        have wn : World K cls m1 F1 g1 (upd H1 p (.dK (mergeK [] kv))) := w.wr k2 k3
        have sn := s1.wr (o := .dK (mergeK [] kv)) hn
        exact h' (.ref p) m1 (upd F1 p (.dK (mergeK [] kv))) _ (sn.freeze k2 hn) (wn.freeze k2 k3 upd_same) (.dct upd_same (RepK.mono (grow_new k2) _ _ (mergeD_rep rk .nil)))
      · exact h'.elim
end
section
variable {K : PySem.W.Frag} {cls : Str → Addr} {X : Cx} {W : WX} {e e2 a b : Expr} {es : List Expr} {tA : TA} {gA : Env → G → Res (List D)} {pos p tpos : Pos} {elts : List Expr} {kk : Nat} {ta tb : TE} {fa fb : Env → G → Res D}
theorem fi_zip (hm : X.mg "zip" = none) (ha : FA cls X W [e, e2] tA gA) (hg : Gl X "zip" := by rfl) (hs : starEach [e, e2] X.env = (false, eval e X.env) :: starEach [e2] X.env := by rfl) (hpl : (backTo pos (starEach [e2] X.env)).any (·.1) = false := by rfl) :
    FI cls X W (.Tuple elts kk tpos) (.Call (.Name "zip" p) [e, e2] [] pos) (iZipB X.K tA) (fZip gA) := ⟨pi_zipB hg hm ha.p hs hpl, si_zip ha.s⟩
theorem fi_enum (hm : X.mg "enumerate" = none) (ha : FA cls X W [e] tA gA) (hg : Gl X "enumerate" := by rfl) (hs : starEach [e] X.env = [(false, eval e X.env)] := by rfl) :
    FI cls X W (.Tuple elts kk tpos) (.Call (.Name "enumerate" p) [e] [] pos) (iEnumB X.K tA) (fEnum gA) := ⟨pi_enumB hg hm ha.p hs, si_enum ha.s⟩
theorem tkW0 {X : Cx} : Takes X W0 := fun _ _ x => by
  obtain ⟨_, _, _, _, _, _, _, _, _, _, _, _, _, _, _, _, z⟩ := x
  exact z.elim
theorem fe_cell (ha : FA cls X W es tA gA) : FE cls X W (.List es pos) (tLst tA) (fCellL gA) := ⟨pe_lst ha.p, se_cellL ha.s⟩
structure FPs (cls : Str → Addr) (X : Cx) (W : WX) (pos : Pos) (keys : List (Option Expr)) (values : List Expr) (trs : List (TE × TE)) (prs : List FPair) : Prop where
  p : PPs X pos keys values trs
  s : SP X.K cls W trs (fPairs prs)
theorem fps_nil : FPs cls X W pos [] [] [] [] := ⟨pps_nil, sp_nil⟩
theorem fps_cons {ks : List (Option Expr)} {vs : List Expr} {trs : List (TE × TE)} {prs : List FPair} (hk : FE cls X W a ta fa) (hv : FE cls X W b tb fb) (hr : FPs cls X W pos ks vs trs prs) : FPs cls X W pos (some a :: ks) (b :: vs) ((ta, tb) :: trs) ((fa, fb) :: prs) := ⟨pps_cons hk.p hv.p hr.p, sp_cons hk.s hv.s hr.s⟩
theorem fe_disp {ks : List (Option Expr)} {vs : List Expr} {trs : List (TE × TE)} {prs : List FPair} (h : FPs cls X W pos ks vs trs prs) (hall : ks.all (·.isSome) = true := by rfl) (hl : ks.length = vs.length := by rfl) (h0 : ks ≠ [] := by exact List.cons_ne_nil _ _) (h15 : ks.length ≤ 15 := by decide) : FE cls X W (.Dict ks vs pos) (tDisp trs) (fDisp prs) := ⟨pe_disp h.p hall hl h0 h15, se_disp h.s⟩
end
end FL

/-! FL13: instances: fields, methods, properties, classes called -/
namespace FR
open PySem PySem.Spec PyProof.Rows L2
section
variable {X : Cx} {CX : CXT} {k : Nat} {f C : Addr} {fd : FuncData} {ps : List Str} {sp : Sp} {dvs : List V} {ds : List Value} {E : L2.St → XK} {x m : Str} {p pos apos : Pos} {e o : Expr} {es : List Expr} {ta : TE} {t : TA}
def tMethSD (C : Addr) (m : Str) (sp : Sp) (dvs : List V) (E : L2.St → XK) (ta : TE) (t : TA) : TE := fun σ H Q => ta σ H fun x H1 => ∃ a dx fs, x = .ref a ∧ H1 a = some (.ins C dx fs) ∧ fs.lookup m = none ∧ t σ H1 fun vs H2 => sp (x :: (vs ++ dvs)) H2 Q (E σ)
theorem pe_methSD {pl : Sem Bool} (he : PE X o ta) (c : Cls X.K C) (hm : Meth X.K C m f) (F : FnOk X.prog X.w X.K X.mg X.base CX k f fd ps sp) (hr : Room k X.A) (hb : Binds X.K fd ps ds) (hd : Vals dvs ds) (hx : ∀ σ, PassesAt CX X σ (E σ)) (ha : PA X (e :: es) t)
    (hst : starEach (e :: es) X.env = (false, eval e X.env) :: starEach es X.env := by rfl) (hpl : (backTo pos (starEach es X.env)).any (·.1) = false := by rfl)
    (ht : eval (.Call (.Attribute o m apos) (e :: es) [] pos) X.env = (do
      let ov ← eval o X.env
      standAt apos.atName
      let (f, first) ← holding [ov] (getMethod ov m pl)
      callWith pos f first (backTo pos (starEach (e :: es) X.env)) (backToKw pos (keywordEach [] X.env))) := by rfl) :
    PE X (.Call (.Attribute o m apos) (e :: es) [] pos) (tMethSD C m sp dvs E ta t) := by
  refine ⟨fun pins s σ H Q I h => ?_⟩
  refine PySem.W.methodCall_KW (pl := pl) (thn (he.run pins s σ H _ I h) fun u s1 ⟨x, H1, I1, rx, a, dx, fs, ex, ea, l, q⟩ => ?_) ht
  subst ex
  obtain rfl : u = Value.ref a := rx
  refine getmeth_ok I1 ea c hm l ?_
  refine PySem.W.callWith_K (first := [.ref a]) (h₀ := X.base) I.ok.mod.kin hm.kp (thn (ha.run pos pins s1 σ H1 _ I1 q) fun us s2 ⟨vs, H2, I2, r, q2⟩ => ⟨I2.kIn, ?_⟩) hst hpl
  exact run_fnSD (us := .ref a :: us) (vs := .ref a :: vs) F hr hb hd (hx σ) I2 (.cons rfl r) q2
theorem pe_methSD0 {pl : Sem Bool} (he : PE X o ta) (c : Cls X.K C) (hm : Meth X.K C m f) (F : FnOk X.prog X.w X.K X.mg X.base CX k f fd ps sp) (hr : Room k X.A) (hb : Binds X.K fd ps ds) (hd : Vals dvs ds) (hx : ∀ σ, PassesAt CX X σ (E σ))
    (ht : eval (.Call (.Attribute o m apos) [] [] pos) X.env = (do
      let ov ← eval o X.env
      standAt apos.atName
      let (f, first) ← holding [ov] (getMethod ov m pl)
      callWith pos f first (backTo pos (starEach [] X.env)) (backToKw pos (keywordEach [] X.env))) := by rfl) :
    PE X (.Call (.Attribute o m apos) [] [] pos) (tMethSD C m sp dvs E ta tNil) := by
  refine ⟨fun pins s σ H Q I h => ?_⟩
  refine PySem.W.methodCall_KW (pl := pl) (thn (he.run pins s σ H _ I h) fun u s1 ⟨x, H1, I1, rx, a, dx, fs, ex, ea, l, q⟩ => ?_) ht
  subst ex
  obtain rfl : u = Value.ref a := rx
  refine getmeth_ok I1 ea c hm l ?_
  exact PySem.W.callWith_K0 (first := [.ref a]) I1.kIn hm.kp (run_fnSD (us := [.ref a]) (vs := [.ref a]) F hr hb hd (hx σ) I1 (.cons rfl .nil) q)
def tMakeSD (C : Addr) (sp : Sp) (dvs : List V) (E : L2.St → XK) (t : TA) : TE := fun σ H Q => t σ H fun vs H1 => ∀ x dx, H1 x = none → H1 dx = none → dx ≠ x → sp (.ref x :: (vs ++ dvs)) (upd (upd H1 dx (.own x)) x (.ins C dx [])) (fun v H2 => v = .non ∧ Q (.ref x) H2) (E σ)
theorem run_makeSD {pins : List (Addr × Obj)} {σ : L2.St} {H : Hp} {s : Shared} {Q : VK} {us : List Value} {vs : List V} (M : Mk X.K C f) (F : FnOk X.prog X.w X.K X.mg X.base CX k f fd ps sp) (hr : Room (k + 1) X.A) (hb : Binds X.K fd ps ds) (hd : Vals dvs ds)
    (hx : PassesAt CX X σ (E σ)) (I : Inv X pins σ H s) (r : Vals vs us)
    (h : ∀ x dx, H x = none → H dx = none → dx ≠ x → sp (.ref x :: (vs ++ dvs)) (upd (upd H dx (.own x)) x (.ins C dx [])) (fun v H2 => v = .non ∧ Q (.ref x) H2) (E σ)) :
    wpAny (model X.prog X.w) X.A (call (.ref C) us) (EP X pins σ Q) X.xe s := by
  have hq := h (s.heap.objs.size + 1) s.heap.objs.size (I.hok.fresh (Nat.le_succ _)) (I.hok.fresh (Nat.le_refl _)) (Nat.ne_of_lt (Nat.lt_succ_self _))
  have I2 := Inv.made (C := C) I
  have r2 : Vals (V.ref (s.heap.objs.size + 1) :: (vs ++ dvs)) (Value.ref (s.heap.objs.size + 1) :: (us ++ ds)) := .cons rfl (r.append hd)
  have hl : (Value.ref (s.heap.objs.size + 1) :: us ++ ds).length = ps.length := by
    have e := r2.length
    rw [F.len _ _ _ _ hq] at e
    exact e.symm
  refine wpAny_call (make_map (f := f) I.kIn M.makes M.init (beq_iff_eq.mp M.fn) (codeAny_mono (F.run _ X.stack _ _ ⟨Value.ref (s.heap.objs.size + 1) :: us, []⟩ (Value.ref (s.heap.objs.size + 1) :: (us ++ ds)) _ _ (E σ) (hr.make C us [])
    (I2.env0.make C us []) (hb _ (Value.ref (s.heap.objs.size + 1) :: us) I2.kIn hl) r2 hq) fun r s' hq' => ?_))
  cases r with
  | error e => exact hx pins _ _ e s' I2 hq'
  | ok fl =>
    cases fl with
    | ret u =>
      obtain ⟨v, H', I3, rv, ev, q3⟩ := I2.after hq'
      subst ev
      exact ⟨rv, ⟨V.ref (s.heap.objs.size + 1), H', I3, rfl, q3⟩⟩
    | next => exact False.elim hq'
    | brk => exact False.elim hq'
    | cont => exact False.elim hq'
theorem pe_makeSD (M : Mk X.K C f) (F : FnOk X.prog X.w X.K X.mg X.base CX k f fd ps sp) (hr : Room (k + 1) X.A) (hg : Gl X x) (hm : X.mg x = some (.ref C)) (hb : Binds X.K fd ps ds) (hd : Vals dvs ds) (hx : ∀ σ, PassesAt CX X σ (E σ))
    (ha : PA X (e :: es) t) (hdb : (x == ("__debug__" : Str)) = false := by decide) (he : starEach (e :: es) X.env = (false, eval e X.env) :: starEach es X.env := by rfl) (hpl : (backTo pos (starEach es X.env)).any (·.1) = false := by rfl) :
    PE X (.Call (.Name x p) (e :: es) [] pos) (tMakeSD C sp dvs E t) := by
  refine ⟨fun pins s σ H Q I h => ?_⟩
  refine wpAny_Call_Name_kw (ld_glob I hg hm ?_ hdb)
  refine PySem.W.callWith_K (h₀ := X.base) I.ok.mod.kin M.kp (thn (ha.run pos pins s σ H _ I h) fun us s1 ⟨vs, H1, I1, r, q⟩ => ⟨I1.kIn, ?_⟩) he hpl
  exact run_makeSD M F hr hb hd (hx σ) I1 r q
theorem pe_makeSD0 (M : Mk X.K C f) (F : FnOk X.prog X.w X.K X.mg X.base CX k f fd ps sp) (hr : Room (k + 1) X.A) (hg : Gl X x) (hm : X.mg x = some (.ref C)) (hb : Binds X.K fd ps ds) (hd : Vals dvs ds) (hx : ∀ σ, PassesAt CX X σ (E σ))
    (hdb : (x == ("__debug__" : Str)) = false := by decide) : PE X (.Call (.Name x p) [] [] pos) (tMakeSD C sp dvs E tNil) := by
  refine ⟨fun pins s σ H Q I h => ?_⟩
  refine wpAny_Call_Name_kw (ld_glob I hg hm ?_ hdb)
  exact PySem.W.callWith_K0 I.kIn M.kp (run_makeSD (us := []) M F hr hb hd (hx σ) I .nil h)
theorem pe_callSD0 (F : FnOk X.prog X.w X.K X.mg X.base CX k f fd ps sp) (hr : Room k X.A) (hg : Gl X x) (hm : X.mg x = some (.ref f)) (hk : PySem.W.keepIn X.K (.ref f) = true) (hb : Binds X.K fd ps ds) (hd : Vals dvs ds) (hx : ∀ σ, PassesAt CX X σ (E σ))
    (hdb : (x == ("__debug__" : Str)) = false := by decide) : PE X (.Call (.Name x p) [] [] pos) (tCallSD sp dvs E tNil) := by
  refine ⟨fun pins s σ H Q I h => ?_⟩
  refine wpAny_Call_Name_kw (ld_glob I hg hm ?_ hdb)
  exact PySem.W.callWith_K0 I.kIn hk (run_fnSD (us := []) F hr hb hd (hx σ) I .nil h)
end
end FR
namespace FL
open PySem PySem.Spec PyProof.Rows L2 FR
/-- the class and the fields of what is an instance -/
def insD (g : G) : D → Option (Str × List (Str × D))
  | .ins c fs => some (c, fs)
  | .ref n => match g[n]? with
    | some (.ins c fs) => some (c, fs)
    | _ => none
  | _ => none
def dFld (cs : List Str) (f : Str) (d : D) (g : G) : Res D := match insD g d with
  | some (c, fs) => if c ∈ cs then okO (fs.lookup f) g else .stuck
  | none => .stuck
def putD (f : Str) (v : D) : List (Str × D) → List (Str × D)
  | [] => [(f, v)]
  | (k, x) :: r => if k = f then (k, v) :: r else (k, x) :: putD f v r
def setF (cs : List Str) (f : Str) (g : G) (o d : D) : Option G := match o with
  | .ref n => match g[n]? with
    | some (.ins c fs) => if c ∈ cs ∧ fs.length < 1000 then some (g.set n (.ins c (putD f d fs))) else none
    | _ => none
  | _ => none
def fSetF (cs : List Str) (f : Str) (fe fo : Env → G → Res D) : Env → G → SRes := fun env g => eS env (fe env g) fun d g1 => eS env (fo env g1) fun o g2 => match setF cs f g2 o d with
  | some g3 => .next env g3
  | none => .stuck
/-- o.m(..): of the class c -/
def fMeth (c m : Str) (Fn : List D → G → Res D) (fo : Env → G → Res D) (fa : Env → G → Res (List D)) : Env → G → Res D := fun env g => (fo env g).bind fun o g1 => match insD g1 o with
  | some (c', fs) => if c' = c ∧ (fs.lookup m).isNone = true then (fa env g1).bind fun ds g2 => Fn (o :: ds) g2 else .stuck
  | none => .stuck
/-- o.f, a property of the class c -/
def dProp (c : Str) (Fn : List D → G → Res D) (o : D) (g : G) : Res D := match insD g o with
  | some (c', _) => if c' = c then Fn [o] g else .stuck
  | none => .stuck
/-- C(..): a new cell, then __init__ -/
def mkIns (c : Str) (Fn : List D → G → Res D) (ds : List D) (g : G) : Res D := match Fn (.ref g.length :: ds) (g ++ [.ins c []]) with
  | .ok .non g2 => .ok (.ref g.length) g2
  | .ok _ _ => .stuck
  | .exc x g2 => .exc x g2
  | .stuck => .stuck
/-- .. that stays as it is from then on -/
def mkFrz (c : Str) (Fn : List D → G → Res D) (ds : List D) (g : G) : Res D := match Fn (.ref g.length :: ds) (g ++ [.ins c []]) with
  | .ok .non g2 => match g2[g.length]? with
    | some (.ins c' fs) => .ok (.ins c' fs) (g2.set g.length .dead)
    | _ => .stuck
  | .ok _ _ => .stuck
  | .exc x g2 => .exc x g2
  | .stuck => .stuck
section
variable {K : PySem.W.Frag} {cls : Str → Addr} {W : WX} {m : List Addr} {F : Hp} {g : G} {H : Hp} {env : Env} {os : Nat → Option Addr} {σ : L2.St} {tA : TA} {gA : Env → G → Res (List D)} {ta te to : TE} {fa fe fo : Env → G → Res D}
theorem ins_rep (w : World K cls m F g H) {v : V} {d : D} {c : Str} {fs : List (Str × D)} (r : Rep K cls m F v d) (e : insD g d = some (c, fs)) : ∃ a dx xs, v = .ref a ∧ H a = some (.ins (cls c) dx xs) ∧ RepF K cls m F xs fs := by
  cases r with
  | ins a b => cases e; exact ⟨_, _, _, rfl, w.fe _ _ a, b⟩
  | ref a =>
    rename_i p n
    unfold insD at e
    cases q : g[n]? with
    | none => simp only [q] at e; cases e
    | some c' =>
      simp only [q] at e
      cases c' with
      | ins c2 fs2 =>
        cases e
        obtain ⟨dx, xs, h1, h2⟩ := w.at_ n _ _ q a
        exact ⟨_, dx, xs, rfl, h1, h2⟩
      | _ => cases e
  | _ => cases e
theorem repF_lookup {f : Str} : ∀ {xs : List (Str × V)} {fs : List (Str × D)}, RepF K cls m F xs fs → (∀ d, fs.lookup f = some d → ∃ v, xs.lookup f = some v ∧ Rep K cls m F v d) ∧ (fs.lookup f = none → xs.lookup f = none)
  | _, [], h => by cases h; exact ⟨fun d e => (by cases e), fun _ => rfl⟩
  | _, (k, d) :: fs, h => by
    cases h with
    | @cons _ v _ vs _ a b =>
      obtain ⟨h1, h2⟩ := repF_lookup (f := f) b
      by_cases e : (f == k) = true
      · refine ⟨fun d' e' => ?_, fun e' => ?_⟩
        · rw [List.lookup_cons, e] at e' ⊢
          cases e'
          exact ⟨v, rfl, a⟩
        · rw [List.lookup_cons, e] at e'; cases e'
      · have e0 : (f == k) = false := by simpa using e
        refine ⟨fun d' e' => ?_, fun e' => ?_⟩
        · rw [List.lookup_cons, e0] at e' ⊢
          exact h1 d' e'
        · rw [List.lookup_cons, e0] at e' ⊢
          exact h2 e'
theorem repF_length : ∀ {xs : List (Str × V)} {fs : List (Str × D)}, RepF K cls m F xs fs → xs.length = fs.length
  | _, [], h => by cases h; rfl
  | _, (k, d) :: fs, h => by
    cases h with
    | cons a b => rw [List.length_cons, List.length_cons, repF_length b]
theorem repF_put {f : Str} {v : V} {d : D} (r : Rep K cls m F v d) : ∀ {xs : List (Str × V)} {fs : List (Str × D)}, RepF K cls m F xs fs → RepF K cls m F (putF f v xs) (putD f d fs)
  | _, [], h => by cases h; exact .cons r .nil
  | _, (k, d') :: fs, h => by
    cases h with
    | cons a b =>
      unfold putF putD
      split
      · exact .cons r b
      · exact .cons a (repF_put r b)
theorem se_fld {cs : List Str} {f : Str} (hc : ∀ c ∈ cs, Cls K (cls c) ∧ NoAttr K (cls c) f) (he : SE K cls W te fe) : SE K cls W (tFld K te f) (f1 (dFld cs f) fe) := fun m F g H env os σ Q rl h =>
  he m F g H env os σ _ rl (h.bind fun o g1 v m1 F1 H1 s1 w1 r1 h1 => by
    unfold dFld at h1
    split at h1
    · rename_i c fs e
      split at h1
      · rename_i hm
        obtain ⟨a, dx, xs, rfl, hH, rF⟩ := ins_rep w1 r1 e
        cases q : fs.lookup f with
        | none => rw [q] at h1; exact h1.elim
        | some d =>
          rw [q] at h1
          obtain ⟨u, hu, ru⟩ := (repF_lookup (f := f) rF).1 d q
          exact ⟨a, _, dx, xs, u, rfl, hH, (hc c hm).1, (hc c hm).2, hu, h1.here w1 ru⟩
      · exact h1.elim
    · exact h1.elim)
theorem ss_fld {cs : List Str} {f : Str} (hc : ∀ c ∈ cs, Cls K (cls c) ∧ NoAttr K (cls c) f) (he : SE K cls W te fe) (ho : SE K cls W to fo) : SS K cls W (sFld K to te f) (fSetF cs f fe fo) := fun B D m F g H env os σ rl h =>
  he m F g H env os σ _ rl.r (sat_e rl h fun d g1 v m1 F1 H1 s1 r1 q1 h1 => ho m1 F1 g1 H1 env os σ _ r1.r (sat_e r1 h1 fun o g2 ov m2 F2 H2 s2 r2 q2 h2 => by
    have hw := r2.r.w
    have q1' := Rep.mono s2.grow _ _ q1
    cases e : setF cs f g2 o d with
    | none => simp only [e] at h2; exact h2.elim
    | some g3 =>
      simp only [e] at h2
      unfold setF at e
      split at e
      · rename_i n
        split at e
        · rename_i c fs ec
          split at e
          · rename_i hl
            cases e
            obtain ⟨a, rfl, em, dx, xs, hH, rF⟩ := live_of hw q2 ec
            refine ⟨a, _, dx, xs, rfl, hH, (hc c hl.1).1, (hc c hl.1).2, by rw [repF_length rF]; exact hl.2, ?_⟩
            obtain ⟨w4, s4⟩ := hw.setCell (c' := .ins c (putD f d fs)) (o := .ins (cls c) dx (putF f v xs)) ec (fun z => by cases z) em (fun z => by cases z) ⟨dx, _, upd_same, repF_put q1' rF⟩
            exact h2 m2 F2 _ os σ (Grow.refl _ _) (r2.step s4 w4)
          · cases e
        · cases e
      · cases e))
/-- the last parameters' defaults, by data -/
def DfB (K : PySem.W.Frag) (cls : Str → Addr) (fd : FuncData) (ps : List Str) (dvs : List V) (dd : List D) : Prop := ∃ ds : List Value, L2.Binds K fd ps ds ∧ Vals dvs ds ∧ ∀ m F, RepL K cls m F dvs dd
theorem DfB.nil {K : PySem.W.Frag} {cls : Str → Addr} {fd : FuncData} {ps : List Str} (h : L2.Binds K fd ps []) : DfB K cls fd ps [] [] := ⟨[], h, .nil, fun _ _ => .nil⟩
/-- a def of the module, called with its last defaults dd -/
structure GFd (P : Program) (w : PySem.World) (K : PySem.W.Frag) (mg : Str → Option Value) (base : Heap) (cls : Str → Addr) (x : Str) (k p : Nat) (Fn : List D → G → Res D) (dvs : List V) (dd : List D) : Prop where
  ex : ∃ f fd ps, FnOk P w K mg base (L2.CX P w) k f fd ps (spF K cls p Fn) ∧ mg x = some (.ref f) ∧ PySem.W.keepIn K (.ref f) = true ∧ DfB K cls fd ps dvs dd
  st : ∀ ds g, ds.length ≠ p → Fn ds g = .stuck
/-- a method of the class c is a def that is Fn -/
structure GM (P : Program) (w : PySem.World) (K : PySem.W.Frag) (mg : Str → Option Value) (base : Heap) (cls : Str → Addr) (c x : Str) (k p : Nat) (Fn : List D → G → Res D) (dvs : List V) (dd : List D) : Prop where
  ck : Cls K (cls c)
  ex : ∃ f fd ps, FnOk P w K mg base (L2.CX P w) k f fd ps (spF K cls p Fn) ∧ Meth K (cls c) x f ∧ DfB K cls fd ps dvs dd
  st : ∀ ds g, ds.length ≠ p → Fn ds g = .stuck
/-- the class c is made by an __init__ that is Fn -/
structure GK (P : Program) (w : PySem.World) (K : PySem.W.Frag) (mg : Str → Option Value) (base : Heap) (cls : Str → Addr) (c : Str) (k p : Nat) (Fn : List D → G → Res D) (dvs : List V) (dd : List D) : Prop where
  ex : ∃ f fd ps, FnOk P w K mg base (L2.CX P w) k f fd ps (spF K cls p Fn) ∧ Mk K (cls c) f ∧ mg c = some (.ref (cls c)) ∧ DfB K cls fd ps dvs dd
  st : ∀ ds g, ds.length ≠ p → Fn ds g = .stuck
/-- a property of the class c -/
structure GQ (P : Program) (w : PySem.World) (K : PySem.W.Frag) (mg : Str → Option Value) (base : Heap) (cls : Str → Addr) (c x : Str) (k : Nat) (Fn : List D → G → Res D) : Prop where
  ck : Cls K (cls c)
  ex : ∃ q f fd ps, FnOk P w K mg base (L2.CX P w) k f fd ps (spF K cls 1 Fn) ∧ PropOf K (cls c) x q f ∧ L2.Binds K fd ps []
  st : ∀ ds g, ds.length ≠ 1 → Fn ds g = .stuck
theorem len_of {Fn : List D → G → Res D} {p : Nat} (hst : ∀ ds g, ds.length ≠ p → Fn ds g = .stuck) {α : Type} {β : Type} {rep : List Addr → Hp → β → α → Prop} {S : Base} {ds : List D} {k : D → G → Res α} {Q : β → Hp → Prop} (h : Sat K cls W σ rep S ((Fn ds g).bind k) Q) : ds.length = p := by
  by_cases q : ds.length = p
  · exact q
  · rw [hst ds g q] at h
    exact h.elim
theorem res_bind_ok (r : Res D) : r.bind (fun d g => .ok d g) = r := by cases r <;> rfl
end
section
variable {X : Cx} {cls : Str → Addr} {W : WX} {c m x : Str} {k p : Nat} {Fn : List D → G → Res D} {o e : Expr} {es : List Expr} {to te : TE} {fo fe : Env → G → Res D} {tA : TA} {gA : Env → G → Res (List D)} {apos pos pp : Pos}
theorem fe_fld {cs : List Str} {f : Str} (hc : ∀ c ∈ cs, Cls X.K (cls c) ∧ NoAttr X.K (cls c) f) (he : FE cls X W e te fe) (hb : attributeBase e f X.env (eval e X.env) = eval e X.env := by rfl) : FE cls X W (.Attribute e f pos) (tFld X.K te f) (f1 (dFld cs f) fe) := ⟨pe_fld he.p hb, se_fld hc he.s⟩
theorem fs_fld {cs : List Str} {f : Str} {pos' : Pos} (hc : ∀ c ∈ cs, Cls X.K (cls c) ∧ NoAttr X.K (cls c) f) (he : FE cls X W e te fe) (ho : FE cls X W o to fo) (hs : swapsWith e (some (.Attribute o f pos')) pos.line X.env = pure false := by rfl) :
    FS cls X W (.Assign [.Attribute o f pos'] e pos) (sFld X.K to te f) (fSetF cs f fe fo) := ⟨ps_fld ho.p he.p hs, ss_fld hc he.s ho.s⟩
def dDf (Fn : List D → G → Res D) (dd : List D) : List D → G → Res D := fun ds g => Fn (ds ++ dd) g
theorem repL_append {K : PySem.W.Frag} {cls : Str → Addr} {m : List Addr} {F : Hp} {vs ws : List V} {ds es : List D} (h : RepL K cls m F vs ds) (q : RepL K cls m F ws es) : RepL K cls m F (vs ++ ws) (ds ++ es) := h.append q
/-- the promise at data, with the defaults -/
theorem sp_at {K : PySem.W.Frag} {cls : Str → Addr} {W : WX} {m : List Addr} {F : Hp} {g : G} {H : Hp} {σ : L2.St} {p : Nat} {Fn : List D → G → Res D} {vs : List V} {ds : List D} {Q : VK} (hst : ∀ ds g, ds.length ≠ p → Fn ds g = .stuck) (w : World K cls m F g H) (r : RepL K cls m F vs ds) (h : Sat K cls W σ (Rep K cls) ⟨m, F, g, H⟩ (Fn ds g) Q) : spF K cls p Fn vs H Q (WE W σ) := by
  refine ⟨?_, m, F, g, ds, w, r, h.wish fun cl dx H h => h⟩
  rw [r.length]
  by_cases q : ds.length = p
  · exact q
  · rw [hst ds g q] at h
    exact h.elim
theorem fe_callD {dvs : List V} {dd : List D} (hf : GFd X.prog X.w X.K X.mg X.base cls x k p Fn dvs dd) (tk : Takes X W) (hr : Room k X.A) (ha : FA cls X W (e :: es) tA gA) (hg : Gl X x := by rfl) (hdb : (x == ("__debug__" : Str)) = false := by decide)
    (he : starEach (e :: es) X.env = (false, eval e X.env) :: starEach es X.env := by rfl) (hpl : (backTo pos (starEach es X.env)).any (·.1) = false := by rfl) : FE cls X W (.Call (.Name x pp) (e :: es) [] pos) (tCallSD (spF X.K cls p Fn) dvs (fun σ => WE W σ) tA) (fCall (dDf Fn dd) gA) := by
  obtain ⟨f, fd, ps, Fo, hm, hk, ds, hb, hd, hr2⟩ := hf.ex
  exact ⟨pe_callSD Fo hr hg hm hk hb hd (fun σ => passAt tk σ) ha.p hdb he hpl, fun m F0 g H env os σ Q rl h => ha.s m F0 g H env os σ _ rl (h.bind fun as g1 vs m1 F1 H1 s1 w1 r1 h1 => sp_at hf.st w1 (r1.append (hr2 m1 F1)) h1)⟩
theorem fe_callD0 {dvs : List V} {dd : List D} (hf : GFd X.prog X.w X.K X.mg X.base cls x k p Fn dvs dd) (tk : Takes X W) (hr : Room k X.A) (hg : Gl X x := by rfl) (hdb : (x == ("__debug__" : Str)) = false := by decide) : FE cls X W (.Call (.Name x pp) [] [] pos) (tCallSD (spF X.K cls p Fn) dvs (fun σ => WE W σ) tNil) (fCall (dDf Fn dd) fNilA) := by
  obtain ⟨f, fd, ps, Fo, hm, hk, ds, hb, hd, hr2⟩ := hf.ex
  exact ⟨pe_callSD0 Fo hr hg hm hk hb hd (fun σ => passAt tk σ) hdb, fun m F0 g H env os σ Q rl h => sp_at (vs := [] ++ dvs) (ds := [] ++ dd) hf.st rl.w (by rw [List.nil_append, List.nil_append]; exact hr2 m F0) h⟩
/-! methods -/
theorem se_meth {K : PySem.W.Frag} {dvs : List V} {dd : List D} (hst : ∀ ds g, ds.length ≠ p → Fn ds g = .stuck) (hr2 : ∀ m F, RepL K cls m F dvs dd) (ho : SE K cls W to fo) (ha : SA K cls W tA gA) : SE K cls W (tMethSD (cls c) m (spF K cls p Fn) dvs (fun σ => WE W σ) to tA) (fMeth c m (dDf Fn dd) fo gA) := fun m F0 g H env os σ Q rl h =>
  ho m F0 g H env os σ _ rl (h.bind fun o g1 ov m1 F1 H1 s1 w1 r1 h1 => by
    split at h1
    · rename_i c' fs e
      split at h1
      · rename_i hc
        obtain ⟨rfl, hn⟩ := hc
        obtain ⟨a, dx, xs, rfl, hH, rF⟩ := ins_rep w1 r1 e
        refine ⟨a, dx, xs, rfl, hH, (repF_lookup rF).2 (by simpa using hn), ?_⟩
        refine ha m1 F1 g1 H1 env os σ _ (rl.step s1 w1) (h1.bind fun ds g2 vs m2 F2 H2 s2 w2 r2 h2 => ?_)
        exact sp_at (vs := .ref a :: (vs ++ dvs)) (ds := (o :: ds) ++ dd) hst w2 (.cons (Rep.mono s2.grow _ _ r1) (r2.append (hr2 m2 F2))) h2
      · exact h1.elim
    · exact h1.elim)
theorem fe_meth {dvs : List V} {dd : List D} {pl : Sem Bool} (hf : GM X.prog X.w X.K X.mg X.base cls c m k p Fn dvs dd) (tk : Takes X W) (hr : Room k X.A) (ho : FE cls X W o to fo) (ha : FA cls X W (e :: es) tA gA)
    (hst : starEach (e :: es) X.env = (false, eval e X.env) :: starEach es X.env := by rfl) (hpl : (backTo pos (starEach es X.env)).any (·.1) = false := by rfl)
    (ht : eval (.Call (.Attribute o m apos) (e :: es) [] pos) X.env = (do
      let ov ← eval o X.env
      standAt apos.atName
      let (f, first) ← holding [ov] (getMethod ov m pl)
      callWith pos f first (backTo pos (starEach (e :: es) X.env)) (backToKw pos (keywordEach [] X.env))) := by rfl) : FE cls X W (.Call (.Attribute o m apos) (e :: es) [] pos) (tMethSD (cls c) m (spF X.K cls p Fn) dvs (fun σ => WE W σ) to tA) (fMeth c m (dDf Fn dd) fo gA) := by
  obtain ⟨f, fd, ps, Fo, hm, ds, hb, hd, hr2⟩ := hf.ex
  exact ⟨pe_methSD ho.p hf.ck hm Fo hr hb hd (fun σ => passAt tk σ) ha.p hst hpl ht, se_meth hf.st hr2 ho.s ha.s⟩
theorem fe_meth0 {dvs : List V} {dd : List D} {pl : Sem Bool} (hf : GM X.prog X.w X.K X.mg X.base cls c m k p Fn dvs dd) (tk : Takes X W) (hr : Room k X.A) (ho : FE cls X W o to fo)
    (ht : eval (.Call (.Attribute o m apos) [] [] pos) X.env = (do
      let ov ← eval o X.env
      standAt apos.atName
      let (f, first) ← holding [ov] (getMethod ov m pl)
      callWith pos f first (backTo pos (starEach [] X.env)) (backToKw pos (keywordEach [] X.env))) := by rfl) : FE cls X W (.Call (.Attribute o m apos) [] [] pos) (tMethSD (cls c) m (spF X.K cls p Fn) dvs (fun σ => WE W σ) to tNil) (fMeth c m (dDf Fn dd) fo fNilA) := by
  obtain ⟨f, fd, ps, Fo, hm, ds, hb, hd, hr2⟩ := hf.ex
  exact ⟨pe_methSD0 ho.p hf.ck hm Fo hr hb hd (fun σ => passAt tk σ) ht, se_meth hf.st hr2 ho.s sa_nil⟩
/-! properties: they raise nothing -/
theorem fe_prop {f : Str} (hf : GQ X.prog X.w X.K X.mg X.base cls c f k Fn) (hr : Room (k + 1) X.A) (he : FE cls X W e te fe) (hns : ∀ d g x g', Fn [d] g ≠ .exc x g') (hb : attributeBase e f X.env (eval e X.env) = eval e X.env := by rfl) :
    FE cls X W (.Attribute e f pos) (tProp (cls c) (spF X.K cls 1 Fn) [] (fun _ _ _ => False) te) (f1 (dProp c Fn) fe) := by
  obtain ⟨q, f', fd, ps, Fo, hq, hbi⟩ := hf.ex
  refine ⟨pe_prop he.p hf.ck hq Fo hr hbi .nil ?_ hb, fun m F0 g H env os σ Q rl h => he.s m F0 g H env os σ _ rl (h.bind fun o g1 ov m1 F1 H1 s1 w1 r1 h1 => ?_)⟩
  · intro pins σ H s e s' I hc
    obtain ⟨_, _, _, _, _, _, _, _, _, _, _, _, z⟩ := hc
    exact z.elim
  · unfold dProp at h1
    split at h1
    · rename_i c' fs e
      split at h1
      · rename_i hc
        subst hc
        obtain ⟨a, dx, xs, rfl, hH, rF⟩ := ins_rep w1 r1 e
        refine ⟨a, dx, xs, rfl, hH, ?_⟩
        refine ⟨rfl, m1, F1, g1, [o], w1, .cons r1 .nil, ?_⟩
        cases e2 : Fn [o] g1 with
        | ok d g2 => rw [e2] at h1; exact h1
        | exc x g2 => exact absurd e2 (hns _ _ _ _)
        | stuck => rw [e2] at h1; exact h1.elim
      · exact h1.elim
    · exact h1.elim
/-! classes called -/
theorem se_make {K : PySem.W.Frag} {dvs : List V} {dd : List D} (hst : ∀ ds g, ds.length ≠ p → Fn ds g = .stuck) (hr2 : ∀ m F, RepL K cls m F dvs dd) (ha : SA K cls W tA gA) : SE K cls W (tMakeSD (cls c) (spF K cls p Fn) dvs (fun σ => WE W σ) tA) (fCall (mkIns c (dDf Fn dd)) gA) := fun m F0 g H env os σ Q rl h =>
  ha m F0 g H env os σ _ rl (h.bind fun ds g1 vs m1 F1 H1 s1 w1 r1 h1 => fun x dx hx hdx hne => by
    have w2 := w1.wr (p := dx) (o := .own x) (w1.hF hdx) fun l => l.tracked w1 hdx
    have s2 : Step ⟨m1, F1, g1, H1⟩ m1 F1 g1 (upd H1 dx (.own x)) := (Step.refl _ _ _ _).wr hdx
    have hx2 : upd H1 dx (.own x) x = none := by rw [upd_ne (Ne.symm hne)]; exact hx
    obtain ⟨w3, s3⟩ := w2.cell (c := .ins c []) (o := .ins (cls c) dx []) hx2 (fun z => by cases z) ⟨dx, [], upd_same, .nil⟩
    have s23 := s2.trans s3
    have rx : Rep K cls (m1 ++ [x]) F1 (.ref x) (.ref g1.length) := .ref (by rw [← w1.len, List.getElem?_append_right (Nat.le_refl _), Nat.sub_self]; rfl)
    refine sp_at (vs := .ref x :: (vs ++ dvs)) (ds := (.ref g1.length :: ds) ++ dd) hst w3 (.cons rx ((RepL.mono s23.grow _ _ r1).append (hr2 _ _))) ?_
    unfold mkIns at h1
    show Sat K cls W σ (Rep K cls) _ (dDf Fn dd (.ref g1.length :: ds) (g1 ++ [.ins c []])) _
    cases e : dDf Fn dd (.ref g1.length :: ds) (g1 ++ [.ins c []]) with
    | ok d g2 =>
      simp only [e] at h1
      cases d <;> first | exact h1.elim | skip
      intro v m2 F2 H2 s w r
      cases r
      exact ⟨rfl, h1 _ m2 F2 H2 (s23.trans s) w (Rep.mono s.grow _ _ rx)⟩
    | exc x g2 => simp only [e] at h1; exact fun cl dx m2 F2 H2 s w q => h1 cl dx m2 F2 H2 (s23.trans s) w q
    | stuck => simp only [e] at h1; exact h1.elim)
theorem fe_make {dvs : List V} {dd : List D} (hf : GK X.prog X.w X.K X.mg X.base cls c k p Fn dvs dd) (tk : Takes X W) (hr : Room (k + 1) X.A) (ha : FA cls X W (e :: es) tA gA) (hg : Gl X c := by rfl) (hdb : (c == ("__debug__" : Str)) = false := by decide)
    (he : starEach (e :: es) X.env = (false, eval e X.env) :: starEach es X.env := by rfl) (hpl : (backTo pos (starEach es X.env)).any (·.1) = false := by rfl) : FE cls X W (.Call (.Name c pp) (e :: es) [] pos) (tMakeSD (cls c) (spF X.K cls p Fn) dvs (fun σ => WE W σ) tA) (fCall (mkIns c (dDf Fn dd)) gA) := by
  obtain ⟨f, fd, ps, Fo, hm, hmg, ds, hb, hd, hr2⟩ := hf.ex
  exact ⟨pe_makeSD hm Fo hr hg hmg hb hd (fun σ => passAt tk σ) ha.p hdb he hpl, se_make hf.st hr2 ha.s⟩
theorem fe_make0 {dvs : List V} {dd : List D} (hf : GK X.prog X.w X.K X.mg X.base cls c k p Fn dvs dd) (tk : Takes X W) (hr : Room (k + 1) X.A) (hg : Gl X c := by rfl) (hdb : (c == ("__debug__" : Str)) = false := by decide) : FE cls X W (.Call (.Name c pp) [] [] pos) (tMakeSD (cls c) (spF X.K cls p Fn) dvs (fun σ => WE W σ) tNil) (fCall (mkIns c (dDf Fn dd)) fNilA) := by
  obtain ⟨f, fd, ps, Fo, hm, hmg, ds, hb, hd, hr2⟩ := hf.ex
  exact ⟨pe_makeSD0 hm Fo hr hg hmg hb hd (fun σ => passAt tk σ) hdb, se_make hf.st hr2 sa_nil⟩
/-! a cell that stays as it is from here on -/
theorem World.stay {K : PySem.W.Frag} {cls : Str → Addr} {m : List Addr} {F : Hp} {g : G} {H : Hp} (w : World K cls m F g H) {n : Nat} {a : Addr} {c : Cell} {o : HO} (hc : g[n]? = some c) (hd : c ≠ .dead) (hm : m[n]? = some a) (hH : H a = some o) : World K cls m (upd F a o) (g.set n .dead) H ∧ Step ⟨m, F, g, H⟩ m (upd F a o) (g.set n .dead) H := by
  have hF := w.nf n c a hc hd hm
  have gr : Grow m F m (upd F a o) := grow_new hF
  have at' : ∀ (k : Nat) (e : Cell), (g.set n .dead)[k]? = some e → (k = n ∧ e = .dead) ∨ (k ≠ n ∧ g[k]? = some e) := fun k e h => by
    by_cases hk : k = n
    · subst hk
      rw [List.getElem?_set_self (List.getElem?_eq_some_iff.mp hc).1] at h
      cases h; exact .inl ⟨rfl, rfl⟩
    · rw [List.getElem?_set_ne (Ne.symm hk)] at h
      exact .inr ⟨hk, h⟩
  refine ⟨⟨by simpa using w.len, fun k e b h1 h2 => ?_, fun k e b h1 h2 h3 => ?_, fun k k' e e' b h1 h2 h3 h4 h5 h6 => ?_, fun b u e => ?_⟩, ⟨gr, fun b u h1 _ => h1, fun b h1 h2 => ?_, fun b h => ?_, fun b h => h⟩⟩
  · rcases at' k e h1 with ⟨rfl, rfl⟩ | ⟨hk, h3⟩
    · trivial
    · exact CellR.mono gr rfl (w.at_ k e b h3 h2)
  · rcases at' k e h1 with ⟨rfl, rfl⟩ | ⟨hk, h4⟩
    · exact absurd rfl h2
    · have ne : b ≠ a := fun z => hk (w.inj k n e c b h4 h2 hc hd h3 (z ▸ hm))
      rw [upd_ne ne]
      exact w.nf k e b h4 h2 h3
  · rcases at' k e h1 with ⟨rfl, rfl⟩ | ⟨hk, h7⟩
    · exact absurd rfl h2
    · rcases at' k' e' h3 with ⟨rfl, rfl⟩ | ⟨hk', h8⟩
      · exact absurd rfl h4
      · exact w.inj k k' e e' b h7 h2 h8 h4 h5 h6
  · by_cases z : b = a
    · subst z
      rw [upd_same] at e
      rw [hH]; exact e
    · rw [upd_ne z] at e
      exact w.fe b u e
  · by_cases z : b = a
    · subst z
      exact .inr ⟨n, c, hc, hd, hm⟩
    · rw [upd_ne z] at h1
      exact absurd h2 h1
  · obtain ⟨k, e, h1, h2, h3⟩ := h
    rcases at' k e h1 with ⟨rfl, rfl⟩ | ⟨hk, h7⟩
    · exact absurd rfl h2
    · exact .inl ⟨k, e, h7, h2, h3⟩
def frzD (d : D) (g : G) : Res D := match d with
  | .ref n => match g[n]? with
    | some (.ins c fs) => .ok (.ins c fs) (g.set n .dead)
    | some (.lst xs) => .ok (.lst xs) (g.set n .dead)
    | some (.dct xs) => .ok (.dct xs) (g.set n .dead)
    | _ => .stuck
  | _ => .stuck
/-- the same value, from here on as it is -/
theorem se_stay {K : PySem.W.Frag} {t : TE} {f : Env → G → Res D} (h : SE K cls W t f) : SE K cls W t (f1 frzD f) := fun m F0 g H env os σ Q rl hs =>
  h m F0 g H env os σ Q rl (by
    have hs' : Sat K cls W σ (Rep K cls) ⟨m, F0, g, H⟩ ((f env g).bind frzD) Q := hs
    cases e : f env g with
    | stuck => rw [e] at hs'; exact hs'
    | exc x g1 => rw [e] at hs'; exact hs'
    | ok d g1 =>
      rw [e] at hs'
      simp only [Res.bind_ok] at hs'
      intro v m1 F1 H1 s w r
      unfold frzD at hs'
      split at hs'
      · rename_i n
        split at hs'
        · rename_i c fs ec
          obtain ⟨a, rfl, em, dx, xs, hH, rF⟩ := live_of w r ec
          obtain ⟨w2, s2⟩ := w.stay ec (fun z => by cases z) em hH
          exact hs' _ m1 _ H1 (s.trans s2) w2 (.ins upd_same (RepF.mono s2.grow _ _ rF))
        · rename_i xs ec
          obtain ⟨a, rfl, em, us, hH, rF⟩ := live_of w r ec
          obtain ⟨w2, s2⟩ := w.stay ec (fun z => by cases z) em hH
          exact hs' _ m1 _ H1 (s.trans s2) w2 (.lst upd_same (RepL.mono s2.grow _ _ rF))
        · rename_i xs ec
          obtain ⟨a, rfl, em, us, hH, rF⟩ := live_of w r ec
          obtain ⟨w2, s2⟩ := w.stay ec (fun z => by cases z) em hH
          exact hs' _ m1 _ H1 (s.trans s2) w2 (.dct upd_same (RepK.mono s2.grow _ _ rF))
        · exact hs'.elim
      · exact hs'.elim)
theorem fe_stay {t : TE} {f : Env → G → Res D} (h : FE cls X W e t f) : FE cls X W e t (f1 frzD f) := ⟨h.p, se_stay h.s⟩
end
end FL

/-! FL14: list comprehensions of three clauses -/
namespace FR
open PySem PySem.Spec PyProof.Rows L2
section
variable {elt t0 i0 t1 i1 t2 i2 : Expr} {ifs0 ifs1 ifs2 : List Expr} {scope : Scope} {pos : Pos} {it acc : Value} {env : Env}
abbrev LC3 (elt t0 i0 : Expr) (ifs0 : List Expr) (t1 i1 : Expr) (ifs1 : List Expr) (t2 i2 : Expr) (ifs2 : List Expr) (scope : Scope) (pos : Pos) : Expr := .ListComp elt [⟨t0, i0, ifs0, 0⟩, ⟨t1, i1, ifs1, 0⟩, ⟨t2, i2, ifs2, 0⟩] scope pos
/-- a clause's turn that goes on to the next clause -/
def GoesOn (E : Expr) (k : Nat) (t0 i0 : Expr) (ifs0 : List Expr) (i1 : Expr) : Prop := ∀ (it acc : Value) (env : Env), compTurn E k it acc env = (do
      standAt i0.pos
      match ← pyNext it with
      | none => pure (.done .next)
      | some v =>
        letOwnedTupleGo t0 it v
        assign t0 env v
        let mut ok := true
        for c in ifs0 do
          if ok then ok ← isTrue c env (eval c env)
        if ok then
          let x ← eval i1 env
          standAt i1.pos
          let x ← foldedSetIterable i1 env x
          let _ ← runOwn (.compStart E (k + 1) (← holding [x] (pyIter x)) acc env) env
        again (.compLoop E k it acc env))
/-- the last clause's turn -/
def GoesIn (E : Expr) (k : Nat) (t1 i1 : Expr) (ifs1 : List Expr) (elt : Expr) : Prop := ∀ (it acc : Value) (env : Env), compTurn E k it acc env = (do
      standAt i1.pos
      match ← pyNext it with
      | none => pure (.done .next)
      | some v =>
        letOwnedTupleGo t1 it v
        assign t1 env v
        let mut ok := true
        for c in ifs1 do
          if ok then ok ← isTrue c env (eval c env)
        if ok then
          (do let _ ← call (.builtin "list.append") [acc, ← eval elt env])
        again (.compLoop E k it acc env))
theorem goesOn3_0 : GoesOn (LC3 elt t0 i0 ifs0 t1 i1 ifs1 t2 i2 ifs2 scope pos) 0 t0 i0 ifs0 i1 := fun it acc env => by rfl
theorem goesOn3_1 : GoesOn (LC3 elt t0 i0 ifs0 t1 i1 ifs1 t2 i2 ifs2 scope pos) 1 t1 i1 ifs1 i2 := fun it acc env => by rfl
theorem goesIn3 : GoesIn (LC3 elt t0 i0 ifs0 t1 i1 ifs1 t2 i2 ifs2 scope pos) 2 t2 i2 ifs2 elt := fun it acc env => by rfl
end
section
variable {prog : Program} {w : World} {A : Around} {R : Result → Shared → Prop} {s : Shared} {elt t0 i0 t1 i1 : Expr} {ifs0 ifs1 : List Expr} {gs : List Comprehension} {scope : Scope} {pos : Pos} {it acc : Value} {env : Env} {k : Nat}
theorem compLoopG_out (heq : GoesOn (.ListComp elt gs scope pos) k t0 i0 ifs0 i1) (hs : ∀ x, foldedSetIterable i1 env x = pure x) (I : Nat → Shared → Prop)
    (turn : ∀ n s, I n s → wpAny (model prog w) A (pyNext it) (fun r s₁ => match r with
      | none => R (.ok .next) s₁
      | some v => wpAny (model prog w) A (letOwnedTupleGo t0 it v) (fun _ s₁' => wpAny (model prog w) A (assign t0 env v) (fun _ s₂ =>
          wpAny (model prog w) A (forIn ifs0 true fun c r => if r = true then do let ok ← isTrue c env (eval c env); pure (ForInStep.yield ok) else pure (ForInStep.yield r)) (fun ok s₃ =>
            if ok = true then wpAny (model prog w) A (eval i1 env) (fun x s₄ => wpAny (model prog w) A (pyIter x) (fun it1 s₅ =>
              codeAny (model prog w) A (.compStart (.ListComp elt gs scope pos) (k + 1) it1 acc env) (fun r s' => match r with
                | .ok _ => ∃ m, m < n ∧ I m s'
                | .error _ => False) s₅) (notedBy (model prog w) A env fun e s' => R (.error e) s') s₄) (notedBy (model prog w) A env fun e s' => R (.error e) s') s₃
            else ∃ m, m < n ∧ I m s₃) (notedBy (model prog w) A env fun e s' => R (.error e) s') s₂) (notedBy (model prog w) A env fun e s' => R (.error e) s') s₁') (notedBy (model prog w) A env fun e s' => R (.error e) s') s₁) (notedBy (model prog w) A env fun e s' => R (.error e) s') s)
    (n : Nat) (h : I n s) :
    codeAny (model prog w) A (.compLoop (.ListComp elt gs scope pos) k it acc env) R s := by
  refine codeAny_loop rfl I (fun n s hI => ?_) n h
  show wpAny _ A ((compTurn (.ListComp elt gs scope pos) k it acc env).onRaise (fun x => do noteFrame x env; theTreesLotGoes x)) _ _ s
  refine wpAny_noted ?_
  rw [heq]
  refine wpAny_bind (wpAny_standAt (wpAny_bind (wpAny_mono (turn n s hI) (fun r s₁ h₁ => ?_) fun _ _ h' => h')))
  cases r with
  | none => exact wpAny_pure h₁
  | some v =>
    refine wpAny_bind (wpAny_mono h₁ (fun _ s₁' h₁' => ?_) fun _ _ h' => h')
    refine wpAny_bind (wpAny_mono h₁' (fun _ s₂ h₂ => wpAny_bind (wpAny_mono h₂ (fun ok s₃ h₃ => ?_) fun _ _ h' => h')) fun _ _ h' => h')
    cases ok with
    | false => exact wpAny_pure ⟨rfl, h₃⟩
    | true =>
      refine wpAny_bind (wpAny_mono h₃ (fun x s₄ h₄ => ?_) fun _ _ h' => h')
      refine wpAny_bind (wpAny_standAt (wpAny_bind (wpAny_of_eq (hs x) (wpAny_bind (wpAny_holding (wpAny_mono h₄ (fun it1 s₅ h₅ => ?_) fun _ _ h' => h'))))))
      refine wpAny_bind (wpAny_runOwn ?_)
      rw [Around.mark_none]
      refine codeAny_mono h₅ fun r s' hr => ?_
      cases r with
      | ok f =>
        first
          | exact wpAny_pure ⟨rfl, hr⟩
          | exact wpAny_bind (wpAny_pure (wpAny_pure ⟨rfl, hr⟩))
      | error e => exact hr.elim
theorem compLoopG_in (heq : GoesIn (.ListComp elt gs scope pos) k t1 i1 ifs1 elt) (I : Nat → Shared → Prop)
    (turn : ∀ n s, I n s → wpAny (model prog w) A (pyNext it) (fun r s₁ => match r with
      | none => R (.ok .next) s₁
      | some v => wpAny (model prog w) A (letOwnedTupleGo t1 it v) (fun _ s₁' => wpAny (model prog w) A (assign t1 env v) (fun _ s₂ =>
          wpAny (model prog w) A (forIn ifs1 true fun c r => if r = true then do let ok ← isTrue c env (eval c env); pure (ForInStep.yield ok) else pure (ForInStep.yield r)) (fun ok s₃ =>
            if ok = true then wpAny (model prog w) A (eval elt env) (fun x s₄ =>
              wpAny (model prog w) A (call (.builtin "list.append") [acc, x]) (fun _ s₅ => ∃ m, m < n ∧ I m s₅) (notedBy (model prog w) A env fun e s' => R (.error e) s') s₄) (notedBy (model prog w) A env fun e s' => R (.error e) s') s₃
            else ∃ m, m < n ∧ I m s₃) (notedBy (model prog w) A env fun e s' => R (.error e) s') s₂) (notedBy (model prog w) A env fun e s' => R (.error e) s') s₁') (notedBy (model prog w) A env fun e s' => R (.error e) s') s₁) (notedBy (model prog w) A env fun e s' => R (.error e) s') s)
    (n : Nat) (h : I n s) :
    codeAny (model prog w) A (.compLoop (.ListComp elt gs scope pos) k it acc env) R s := by
  refine codeAny_loop rfl I (fun n s hI => ?_) n h
  show wpAny _ A ((compTurn (.ListComp elt gs scope pos) k it acc env).onRaise (fun x => do noteFrame x env; theTreesLotGoes x)) _ _ s
  refine wpAny_noted ?_
  rw [heq]
  refine wpAny_bind (wpAny_standAt (wpAny_bind (wpAny_mono (turn n s hI) (fun r s₁ h₁ => ?_) fun _ _ h' => h')))
  cases r with
  | none => exact wpAny_pure h₁
  | some v =>
    refine wpAny_bind (wpAny_mono h₁ (fun _ s₁' h₁' => ?_) fun _ _ h' => h')
    refine wpAny_bind (wpAny_mono h₁' (fun _ s₂ h₂ => wpAny_bind (wpAny_mono h₂ (fun ok s₃ h₃ => ?_) fun _ _ h' => h')) fun _ _ h' => h')
    cases ok with
    | false => exact wpAny_pure ⟨rfl, h₃⟩
    | true =>
      exact wpAny_bind (wpAny_bind (wpAny_mono h₃ (fun x s₄ h₄ => wpAny_bind (wpAny_mono h₄ (fun _ s₅ h₅ => wpAny_pure (wpAny_pure ⟨rfl, h₅⟩)) fun _ _ h' => h')) fun _ _ h' => h'))
/-- a further clause's start -/
def Starts (E : Expr) (k : Nat) (i1 : Expr) : Prop := ∀ (it acc : Value) (env : Env), compStart E k it acc env = (do
  if (← ask).params.followText "comprehension-iter-twice" then return ← again (.compLoop E k it acc env)
  rule "comprehension.iter-twice"
  standAt i1.pos
  again (.compLoop E k (← pyIter it) acc env))
theorem compStartG_ok (heq : Starts (.ListComp elt gs scope pos) k i1) (h0 : codeAny (model prog w) A (.compLoop (.ListComp elt gs scope pos) k it acc env) R s)
    (h : wpAny (model prog w) A (pyIter it) (fun it' s' => codeAny (model prog w) A (.compLoop (.ListComp elt gs scope pos) k it' acc env) R s')
      (notedBy (model prog w) A env fun x s' => R (.error x) s') s) (hk : k ≠ 0) :
    codeAny (model prog w) A (.compStart (.ListComp elt gs scope pos) k it acc env) R s := by
  refine codeAny_of_tree ?_
  obtain ⟨j, rfl⟩ := Nat.exists_eq_succ_of_ne_zero hk
  show wpAny _ _ ((compStart (.ListComp elt gs scope pos) (j + 1) it acc env).onRaise (fun x => do noteFrame x env; standAt theWindowsPlace)) _ _ s
  refine wpAny_notedAt ?_
  rw [heq]
  show wpAny _ _ (ask >>= _) _ _ s
  refine wpAny_bind (wpAny_askSetting (wpAny_ite ?_))
  split
  · first
      | exact wpAny_bind (wpAny_pure (wpAny_pure (And.intro rfl h0)))
      | exact wpAny_pure (And.intro rfl h0)
  · first
      | exact wpAny_bind (wpAny_rule (wpAny_bind (wpAny_standAt (wpAny_bind (wpAny_mono h (fun it' s' h' => wpAny_pure (And.intro rfl h')) fun _ _ x => x)))))
      | (refine wpAny_bind (wpAny_rule ?_); show wpAny _ _ (standAt i1.pos >>= _) _ _ s; exact wpAny_bind (wpAny_standAt (wpAny_bind (wpAny_mono h (fun it' s' h' => wpAny_pure (And.intro rfl h')) fun _ _ x => x))))
end
section
variable {elt t0 i0 t1 i1 t2 i2 : Expr} {ifs0 ifs1 ifs2 : List Expr} {scope : Scope} {pos : Pos} {it acc : Value} {env : Env}
theorem starts3_1 : Starts (LC3 elt t0 i0 ifs0 t1 i1 ifs1 t2 i2 ifs2 scope pos) 1 i1 := fun it acc env => by rfl
theorem starts3_2 : Starts (LC3 elt t0 i0 ifs0 t1 i1 ifs1 t2 i2 ifs2 scope pos) 2 i2 := fun it acc env => by rfl
end
end FR

namespace FR
open PySem PySem.Spec PyProof.Rows L2
abbrev TCl := L2.St → Hp → (Hp → Prop) → Prop
/-- the element is made and stored -/
def tElt (D : Addr) (te : TE) : TCl := fun σ H Nx => te σ H fun y H7 => ∃ acc, H7 D = some (.lst acc) ∧ acc.length < sizeLine ∧ Nx (upd H7 D (.lst (acc ++ [y])))
/-- a clause's loop from the store of its turns on -/
def tTurns (inner : TCl) (J : It) (g : TG) (tt : TT) (vs : List Nat) (σ : L2.St) (H0 : Hp) (Nx : Hp → Prop) : Prop := ∃ W : Nat → Nat → Hp → Prop, (∃ m, W 0 m H0) ∧ ∀ j k H, W j k H →
  (J.stop j H ∧ Nx H) ∨ (J.go j H ∧ ∃ Nx1 : Hp → Prop, (∀ H', Nx1 H' → ∃ k', k' < k ∧ W (j + 1) k' H') ∧ ∀ x H', J.yld j H x H' → g x (wipe σ vs) H' fun σ3 H5 => wipe σ3 vs = wipe σ vs ∧ tt σ3 H5 fun b H6 => if b = true then inner σ3 H6 Nx1 else Nx1 H6)
def tCl (inner : TCl) (wi : TI) (g : TG) (tt : TT) (vs : List Nat) : TCl := fun σ H Nx => wi σ H fun J H1 => tTurns inner J g tt vs σ H1 Nx
section
variable {X : Cx} {elt : Expr} {gs : List Comprehension} {scope : Scope} {pos : Pos} {k : Nat} {D : Addr} {tg iter iter1 : Expr} {ifs : List Expr} {wi : TI} {g : TG} {tt : TT} {te : TE} {vs vs1 : List Nat} {t1 : TCl}
/-- a further clause's loop, from its source on -/
def Lp (X : Cx) (E : Expr) (k : Nat) (D : Addr) (vs : List Nat) (iter : Expr) (t : TCl) : Prop := ∀ (pins : List (Addr × Obj)) (s : Shared) (σ : L2.St) (H : Hp) (Nx : Hp → Prop) (G : Shared → Prop), Inv X pins σ H s → t σ H Nx → (∀ s' H', Inv X pins (wipe σ vs) H' s' → Nx H' → G s') →
  wpAny (model X.prog X.w) X.A (eval iter X.env) (fun xv s1 => wpAny (model X.prog X.w) X.A (pyIter xv) (fun it1 s2 => codeAny (model X.prog X.w) X.A (.compStart E k it1 (.ref D) X.env) (fun r s' => match r with
    | .ok _ => G s'
    | .error _ => False) s2) (fun _ _ => False) s1) (fun _ _ => False) s
theorem lp_in (hin : GoesIn (.ListComp elt gs scope pos) k tg iter ifs elt) (hst : Starts (.ListComp elt gs scope pos) k iter) (hk : k ≠ 0) (hxe : X.xe = fun _ _ => False) (hc : X.calm = true) (pi1 : PI X tg iter wi) (pg1 : PG X tg g) (pt1 : PTs X ifs tt) (pe : PE X elt te) :
    Lp X (.ListComp elt gs scope pos) k D vs iter (tCl (tElt D te) wi g tt vs) := by
  intro pins s σ H Nx G I h hG
  have pr := pi1.run pins s σ H _ I h
  rw [hxe] at pr
  refine wpAny_mono pr (fun xv s1 hx => wpAny_mono hx (fun itv s11 h11 => ?_) fun _ _ z => z) fun _ _ z => z
  obtain ⟨it1, fp1, tn1, J1, H11, e1, I11, T1, st11, f11, W1, ⟨m1, w1⟩, turn1⟩ := h11
  subst e1
  have stat1 : ∀ {H' : Hp}, (∀ b ∈ fp1, H' b = none) → ∀ b ∈ fp1, FpOk X pins H' b := fun hn b hb => ⟨hn b hb, (f11 b hb).2⟩
  have loop1 : codeAny (model X.prog X.w) X.A (.compLoop (.ListComp elt gs scope pos) k (.ref it1) (.ref D) X.env) (fun r s' => match r with
      | .ok _ => G s'
      | .error _ => False) s11 := by
    refine compLoopG_in hin (fun n s' => ∃ j H', Inv X pins (wipe σ vs) H' s' ∧ tn1 j s'.heap ∧ (∀ b ∈ fp1, H' b = none) ∧ W1 j n H') ?_ m1 ⟨0, H11, I11.weak (wipe_length _ _) (fun j v e => (wipe_some e).1), st11, fun b hb => (f11 b hb).1, w1⟩
    rintro n s12 ⟨j, H12, I12, st12, n12, w12⟩
    rcases turn1 j n H12 w12 with ⟨stop1, nx1⟩ | ⟨go1, Nx1, hNx1, step1⟩
    · refine thnF (T1.done X rfl rfl rfl hc j _ s12 (wipe σ vs) H12 (fun _ _ => False) I12 (stat1 n12) st12 stop1) fun r s13 ⟨hr, I13⟩ => ?_
      subst hr
      exact hG s13 H12 I13 nx1
    · refine thnF (T1.item X rfl rfl rfl hc j _ s12 (wipe σ vs) H12 (fun _ _ => False) I12 (stat1 n12) st12 go1) fun r s13 ⟨u1, hr, h13⟩ => ?_
      subst hr
      refine thnF h13 fun _ s14 ⟨x1, H14, I14, r14, y14, st14, n14⟩ => ?_
      have I14' := I14.pinned (stat1 n14) (T1.obj _ _ st14)
      have pgr := pg1.run _ s14 (wipe σ vs) H14 x1 u1 _ I14' r14 (step1 x1 H14 y14)
      rw [hxe] at pgr
      refine thnF pgr fun _ s15 ⟨σ15, H15, I15, hw15, q15⟩ => ?_
      have ptr := pt1.run _ s15 σ15 H15 _ I15 q15
      rw [hxe] at ptr
      refine thnF ptr fun b1 s16 ⟨H16, I16, q16⟩ => ?_
      have fin1 : ∀ {s' : Shared} {H' : Hp}, Inv X (pins ++ pinsAt fp1 s14.heap) σ15 H' s' → Nx1 H' → ∃ m, m < n ∧ ∃ j H', Inv X pins (wipe σ vs) H' s' ∧ tn1 j s'.heap ∧ (∀ b ∈ fp1, H' b = none) ∧ W1 j m H' := fun {s' H'} I' nx => by
        obtain ⟨m', hm, w'⟩ := hNx1 H' nx
        have pin' : ∀ b ∈ fp1, ∀ o, s14.heap.get? b = some o → s'.heap.get? b = some o ∧ H' b = none := fun b hb o e =>
          let z := I'.pin (b, o) (List.mem_append_right _ (List.mem_append_right _ (mem_pinsAt hb e)))
          ⟨z.1, z.2.1⟩
        refine ⟨m', hm, j + 1, H', I'.unpinned.weak (by rw [← hw15, wipe_length]) (fun j v e => by rw [← hw15] at e; exact (wipe_some e).1), T1.keep _ _ _ st14 fun b hb o e => (pin' b hb o e).1, fun b hb => ?_, w'⟩
        obtain ⟨o, e, _⟩ := T1.obj _ _ st14 b hb
        exact (pin' b hb o e).2
      cases b1 with
      | false =>
        simp only [Bool.false_eq_true, if_false] at q16 ⊢
        exact fin1 I16 q16
      | true =>
        simp only [if_true] at q16 ⊢
        have per := pe.run _ s16 σ15 H16 _ I16 q16
        rw [hxe] at per
        refine thnF per fun z s17 ⟨yv, H17, I17, r17, acc, hD17, hz17, nx⟩ => ?_
        exact app_ok I17 hD17 hz17 r17 fun s18 I18 => fin1 I18 nx
  exact compStartG_ok hst loop1 (T1.self X.A 0 _ _ _ st11 loop1) hk
theorem lp_mid (hin : GoesOn (.ListComp elt gs scope pos) k tg iter ifs iter1) (hst : Starts (.ListComp elt gs scope pos) k iter) (hk : k ≠ 0) (hxe : X.xe = fun _ _ => False) (hc : X.calm = true) (hs1 : ∀ env x, foldedSetIterable iter1 env x = pure x) (pi1 : PI X tg iter wi) (pg1 : PG X tg g) (pt1 : PTs X ifs tt) (hv : ∀ i ∈ vs1, i ∈ vs)
    (hl : Lp X (.ListComp elt gs scope pos) (k + 1) D vs1 iter1 t1) : Lp X (.ListComp elt gs scope pos) k D vs iter (tCl t1 wi g tt vs) := by
  intro pins s σ H Nx G I h hG
  have pr := pi1.run pins s σ H _ I h
  rw [hxe] at pr
  refine wpAny_mono pr (fun xv s1 hx => wpAny_mono hx (fun itv s11 h11 => ?_) fun _ _ z => z) fun _ _ z => z
  obtain ⟨it1, fp1, tn1, J1, H11, e1, I11, T1, st11, f11, W1, ⟨m1, w1⟩, turn1⟩ := h11
  subst e1
  have stat1 : ∀ {H' : Hp}, (∀ b ∈ fp1, H' b = none) → ∀ b ∈ fp1, FpOk X pins H' b := fun hn b hb => ⟨hn b hb, (f11 b hb).2⟩
  have loop1 : codeAny (model X.prog X.w) X.A (.compLoop (.ListComp elt gs scope pos) k (.ref it1) (.ref D) X.env) (fun r s' => match r with
      | .ok _ => G s'
      | .error _ => False) s11 := by
    refine compLoopG_out hin (hs1 _) (fun n s' => ∃ j H', Inv X pins (wipe σ vs) H' s' ∧ tn1 j s'.heap ∧ (∀ b ∈ fp1, H' b = none) ∧ W1 j n H') ?_ m1 ⟨0, H11, I11.weak (wipe_length _ _) (fun j v e => (wipe_some e).1), st11, fun b hb => (f11 b hb).1, w1⟩
    rintro n s12 ⟨j, H12, I12, st12, n12, w12⟩
    rcases turn1 j n H12 w12 with ⟨stop1, nx1⟩ | ⟨go1, Nx1, hNx1, step1⟩
    · refine thnF (T1.done X rfl rfl rfl hc j _ s12 (wipe σ vs) H12 (fun _ _ => False) I12 (stat1 n12) st12 stop1) fun r s13 ⟨hr, I13⟩ => ?_
      subst hr
      exact hG s13 H12 I13 nx1
    · refine thnF (T1.item X rfl rfl rfl hc j _ s12 (wipe σ vs) H12 (fun _ _ => False) I12 (stat1 n12) st12 go1) fun r s13 ⟨u1, hr, h13⟩ => ?_
      subst hr
      refine thnF h13 fun _ s14 ⟨x1, H14, I14, r14, y14, st14, n14⟩ => ?_
      have I14' := I14.pinned (stat1 n14) (T1.obj _ _ st14)
      have pgr := pg1.run _ s14 (wipe σ vs) H14 x1 u1 _ I14' r14 (step1 x1 H14 y14)
      rw [hxe] at pgr
      refine thnF pgr fun _ s15 ⟨σ15, H15, I15, hw15, q15⟩ => ?_
      have ptr := pt1.run _ s15 σ15 H15 _ I15 q15
      rw [hxe] at ptr
      refine thnF ptr fun b1 s16 ⟨H16, I16, q16⟩ => ?_
      have fin1 : ∀ {σ' : L2.St} {s' : Shared} {H' : Hp}, Inv X (pins ++ pinsAt fp1 s14.heap) σ' H' s' → (wipe σ vs).length = σ'.length → (∀ (j : Nat) v, (wipe σ vs)[j]? = some (some v) → σ'[j]? = some (some v)) → Nx1 H' → ∃ m, m < n ∧ ∃ j H', Inv X pins (wipe σ vs) H' s' ∧ tn1 j s'.heap ∧ (∀ b ∈ fp1, H' b = none) ∧ W1 j m H' := fun {σ' s' H'} I' hl hk nx => by
        obtain ⟨m', hm, w'⟩ := hNx1 H' nx
        have pin' : ∀ b ∈ fp1, ∀ o, s14.heap.get? b = some o → s'.heap.get? b = some o ∧ H' b = none := fun b hb o e =>
          let z := I'.pin (b, o) (List.mem_append_right _ (List.mem_append_right _ (mem_pinsAt hb e)))
          ⟨z.1, z.2.1⟩
        refine ⟨m', hm, j + 1, H', I'.unpinned.weak hl hk, T1.keep _ _ _ st14 fun b hb o e => (pin' b hb o e).1, fun b hb => ?_, w'⟩
        obtain ⟨o, e, _⟩ := T1.obj _ _ st14 b hb
        exact (pin' b hb o e).2
      have hl15 : (wipe σ vs).length = σ15.length := by rw [← hw15, wipe_length]
      have hk15 : ∀ (j : Nat) v, (wipe σ vs)[j]? = some (some v) → σ15[j]? = some (some v) := fun j v e => by rw [← hw15] at e; exact (wipe_some e).1
      cases b1 with
      | false =>
        simp only [Bool.false_eq_true, if_false] at q16 ⊢
        exact fin1 I16 hl15 hk15 q16
      | true =>
        simp only [if_true] at q16 ⊢
        refine wpAny_mono (hl _ s16 σ15 H16 Nx1 _ I16 q16 fun s' H' I' nx => fin1 I' (hl15.trans (wipe_length σ15 vs1).symm) (fun j v e => ?_) nx) (fun xv s17 hx => wpAny_mono hx (fun _ _ h => h) fun _ _ z => z.elim) fun _ _ z => z.elim
        have e' := e
        rw [← hw15] at e'
        obtain ⟨e1, e2⟩ := wipe_some e'
        rw [wipe_out fun z => e2 (hv j z)]
        exact e1
  exact compStartG_ok hst loop1 (T1.self X.A 0 _ _ _ st11 loop1) hk
end
end FR

namespace FR
open PySem PySem.Spec PyProof.Rows L2
/-- [elt for .. for .. ..]: the first clause, then what stands behind its tests (at the list D) -/
def tLcN (inner : Addr → TCl) (wi : TI) (g : TG) (tt : TT) (vs : List Nat) : TE := fun σ H Q => wi σ H fun J H1 => ∀ D, H1 D = none → tTurns (inner D) J g tt vs σ (upd H1 D (.lst [])) (fun H' => Q (.ref D) H')
section
variable {X : Cx}
theorem lcN_core {pins : List (Addr × Obj)} {s : Shared} {σ : L2.St} {H : Hp} {Q : VK} {elt tg iter iter1 : Expr} {ifs : List Expr} {gs : List Comprehension} {scope : Scope} {own : List (Str × Nat)} {vs1 : List Nat} {pos pos' : Pos} {wi : TI} {g : TG} {tt : TT} {inner : Addr → TCl} {use : Option (Value → Sem Unit)} {Qf : Value → Shared → Prop}
    (hin : GoesOn (.ListComp elt (⟨tg, iter, ifs, 0⟩ :: gs) scope pos) 0 tg iter ifs iter1)
    (hc : X.calm = true) (hN : X.N.Nodup) (I : Inv X pins σ H s) (hi : PI X tg iter wi) (ok : BlkOk X.N X.env.scope scope own) (hv : ∀ i ∈ vs1, i ∈ own.map (·.2))
    (hg : ∀ (s : Shared) (H : Hp) (C : Addr) (cl : List (Str × Addr)) (fp : List Addr), PG (X.blk s H scope (compEnvC scope cl C X.env) fp) tg g) (ht : ∀ (s : Shared) (H : Hp) (C : Addr) (cl : List (Str × Addr)) (fp : List Addr), PTs (X.blk s H scope (compEnvC scope cl C X.env) fp) ifs tt)
    (hs : ∀ x, foldedSetIterable iter X.env x = pure x)
    (hl : ∀ (s : Shared) (H : Hp) (C : Addr) (cl : List (Str × Addr)) (fp : List Addr) (D : Addr), Lp (X.blk s H scope (compEnvC scope cl C X.env) fp) (.ListComp elt (⟨tg, iter, ifs, 0⟩ :: gs) scope pos) 1 D vs1 iter1 (inner D))
    (hs1 : ∀ env x, foldedSetIterable iter1 env x = pure x)
    (h : tLcN inner wi g tt (own.map (·.2)) σ H Q)
    (hRR : ∀ D C s' m H', Inv X pins σ H' s' → Q (.ref D) H' → s'.heap.Ns C m → FpOk X pins H' C → compPost (model X.prog X.w) X.A X.xe use Qf (.ref D) C (.ok .next) s') :
    wpAny (model X.prog X.w) X.A (comprehension (.ListComp elt (⟨tg, iter, ifs, 0⟩ :: gs) scope pos) scope X.env pos' (newList []) false (eval iter X.env) use) Qf X.xe s := by
  have hfree : ∀ y ∈ scope.names, y.2 = .free → ∃ c, X.env.cells.lookup y.1 = some c := fun y hy e => by
    rcases ok.free y hy e with k | k
    · exact I.ok.has _ (.inl k)
    · exact I.ok.has _ (.inr k)
  refine wpAny_comprehension_free (use := use) rfl hs (closure_ok hfree) ok.kind (fun y hy e => by rw [ok.uniq y hy, e])
    (thn (hi.run pins s σ H _ I h) fun xv s1 hx => thn hx fun itv s2 h2 => ?_)
  obtain ⟨it, fp, tn, J, H2, e, I2, T, st2, f2, q⟩ := h2
  subst e
  refine wpAny_newObj_type (newEnv_comp ?_) (by show 0 ≤ sizeLine; decide)
  generalize hD : s2.heap.objs.size = D
  have hDn : H2 D = none := I2.hok.fresh (Nat.le_of_eq hD)
  obtain ⟨W, ⟨m0, w0⟩, turn⟩ := q D hDn
  generalize hs3 : ({ s2 with heap := s2.heap.push { cls := .type "list", data := .seq ([] : List Value).toArray } } : Shared) = s3
  have I3 : Inv X pins σ (upd H2 D (.lst [])) s3 := by
    rw [← hs3]
    refine I2.laid (t' := s2.toks) (fun b o e => Heap.get?_push_of_some _ e) (Nat.le_of_eq hD) ⟨Nat.zero_le _, [], 0, .nil, ?_⟩
    rw [← hD]
    exact Heap.get?_push_size _ rfl
  have h3 : s3.heap = s2.heap.push { cls := .type "list", data := .seq ([] : List Value).toArray } := by rw [← hs3]
  have sz : ∀ b ∈ fp, b < s2.heap.objs.size := fun b hb => by
    obtain ⟨o, e, _⟩ := T.obj _ _ st2 b hb
    exact Heap.lt_size e
  have f3 : ∀ b ∈ fp, FpOk X pins (upd H2 D (.lst [])) b ∧ b < s3.heap.objs.size := fun b hb => by
    have hlt := sz b hb
    refine ⟨⟨?_, (f2 b hb).2⟩, by rw [h3, Heap.size_push]; exact Nat.lt_succ_of_lt hlt⟩
    rw [upd_ne (by rw [← hD]; exact Nat.ne_of_lt hlt)]
    exact (f2 b hb).1
  have st3 : tn 0 s3.heap := T.keep _ _ _ st2 fun b _ o e => by rw [h3]; exact Heap.get?_push_of_some _ e
  have I4 := block_start I3 ok hN f3
  have pg := hg s3 (upd H2 D (.lst [])) s3.heap.objs.size (cellsFrom (s3.heap.objs.size + 1) scope.names (cloFrom X.env.cells scope.names [])) fp
  have pt := ht s3 (upd H2 D (.lst [])) s3.heap.objs.size (cellsFrom (s3.heap.objs.size + 1) scope.names (cloFrom X.env.cells scope.names [])) fp
  have pl := hl s3 (upd H2 D (.lst [])) s3.heap.objs.size (cellsFrom (s3.heap.objs.size + 1) scope.names (cloFrom X.env.cells scope.names [])) fp D
  show codeAny _ _ (.compStart (.ListComp elt (⟨tg, iter, ifs, 0⟩ :: gs) scope pos) 0 (.ref it) (.ref D) (compEnvC scope (cellsFrom (s3.heap.objs.size + 1) scope.names (cloFrom X.env.cells scope.names [])) s3.heap.objs.size X.env)) (compPost (model X.prog X.w) X.A X.xe use Qf (.ref D) s3.heap.objs.size) { s3 with heap := pushCells (s3.heap.push { cls := .type "dict", data := .dict #[] }) scope.names }
  have nfp : ∀ b ∈ fp, (upd H2 D (.lst [])) b = none := fun b hb => (f3 b hb).1.1
  generalize hce : compEnvC scope (cellsFrom (s3.heap.objs.size + 1) scope.names (cloFrom X.env.cells scope.names [])) s3.heap.objs.size X.env = ce at I4 pg pt pl ⊢
  have cL : ce.locals = s3.heap.objs.size := by subst hce; rfl
  generalize hH3 : upd H2 D (.lst []) = H3 at I3 I4 pg pt pl w0 nfp f3
  generalize hs4 : ({ s3 with heap := pushCells (s3.heap.push { cls := .type "dict", data := .dict #[] }) scope.names } : Shared) = s4 at I4 ⊢
  have st4 : tn 0 s4.heap := T.keep _ _ _ st3 fun b _ o e => by rw [← hs4]; exact pushCells_keeps _ _ _ _ (Heap.get?_push_of_some _ e)
  have stat : ∀ {σ' : L2.St} {H' : Hp} {s' : Shared}, Inv (X.blk s3 H3 scope ce fp) [] σ' H' s' → (∀ b ∈ fp, H' b = none) → ∀ b ∈ fp, FpOk (X.blk s3 H3 scope ce fp) [] H' b := fun {σ' H' s'} I' hn b hb =>
    ⟨hn b hb, (I'.ok.exf b hb).1, I'.ok.exfs b hb, .inl hb, fun x c e => (I'.ok.exf b hb).2 x c e, fun p hp => absurd (show p ∈ ([] : List (Addr × Obj)) ++ [] from hp) (by simp)⟩
  have loop : codeAny (model X.prog X.w) X.A (.compLoop (.ListComp elt (⟨tg, iter, ifs, 0⟩ :: gs) scope pos) 0 (.ref it) (.ref D) ce) (compPost (model X.prog X.w) X.A X.xe use Qf (.ref D) s3.heap.objs.size) s4 := by
    refine compLoopG_out hin (hs1 ce) (fun n s' => ∃ i H', Inv (X.blk s3 H3 scope ce fp) [] (wipe σ (own.map (·.2))) H' s' ∧ tn i s'.heap ∧ (∀ b ∈ fp, H' b = none) ∧ W i n H') ?_ m0 ⟨0, H3, I4, st4, nfp, w0⟩
    rintro n s5 ⟨i, H5, I5, st5, n5, w5⟩
    rcases turn i n H5 w5 with ⟨stop, qq⟩ | ⟨go, Nx, hNx, step⟩
    · have td := T.done (X.blk s3 H3 scope ce fp) rfl rfl rfl hc i [] s5 _ H5 (fun _ _ => False) I5 (stat I5 n5) st5 stop
      refine thnF td fun r s6 ⟨hr, I6⟩ => ?_
      subst hr
      have I7 : Inv X pins σ H5 s6 := I3.call' (ch := fp) I6.os I6.base I6.hok I6.bare fun b hb => ⟨(f3 b hb).1.2.2.2.1, (f3 b hb).1.2.1, (f3 b hb).1.2.2.2.2.1, (f3 b hb).1.2.2.2.2.2⟩
      have nC : H5 s3.heap.objs.size = none := by
        have z : H5 ce.locals = none := I6.free
        rw [cL] at z
        exact z
      obtain ⟨m, hn, _⟩ := I6.loc
      have hn : s6.heap.Ns ce.locals m := hn
      rw [cL] at hn
      exact hRR D s3.heap.objs.size s6 m H5 I7 qq hn (I3.fpOk (Nat.le_refl _) nC)
    · have ti := T.item (X.blk s3 H3 scope ce fp) rfl rfl rfl hc i [] s5 _ H5 (fun _ _ => False) I5 (stat I5 n5) st5 go
      refine thnF ti fun r s6 ⟨u, hr, h6⟩ => ?_
      subst hr
      refine thnF h6 fun _ s7 ⟨x, H7, I7, r7, y7, st7, n7⟩ => ?_
      have I7' := I7.pinned (stat I7 n7) (T.obj _ _ st7)
      refine thnF (pg.run _ s7 _ H7 x u _ I7' r7 (step x H7 y7)) fun _ s8 ⟨σ8, H8, I8, hw8, q8⟩ => ?_
      refine thnF (pt.run _ s8 σ8 H8 _ I8 q8) fun b s9 ⟨H9, I9, q9⟩ => ?_
      have fin : ∀ {σ9 : L2.St} {s' : Shared} {H' : Hp}, Inv (X.blk s3 H3 scope ce fp) ([] ++ pinsAt fp s7.heap) σ9 H' s' → (wipe σ (own.map (·.2))).length = σ9.length → (∀ (j : Nat) v, (wipe σ (own.map (·.2)))[j]? = some (some v) → σ9[j]? = some (some v)) → Nx H' →
          ∃ m, m < n ∧ ∃ i H', Inv (X.blk s3 H3 scope ce fp) [] (wipe σ (own.map (·.2))) H' s' ∧ tn i s'.heap ∧ (∀ b ∈ fp, H' b = none) ∧ W i m H' := fun {σ9 s' H'} I' hl hk nx => by
        obtain ⟨m', hm, w'⟩ := hNx H' nx
        have pin' : ∀ b ∈ fp, ∀ o, s7.heap.get? b = some o → s'.heap.get? b = some o ∧ H' b = none := fun b hb o e =>
          let z := I'.pin (b, o) (List.mem_append_right _ (List.mem_append_right _ (mem_pinsAt hb e)))
          ⟨z.1, z.2.1⟩
        refine ⟨m', hm, i + 1, H', (I'.unpinned (pins := [])).weak hl hk, T.keep _ _ _ st7 fun b hb o e => (pin' b hb o e).1, fun b hb => ?_, w'⟩
        obtain ⟨o, e, _⟩ := T.obj _ _ st7 b hb
        exact (pin' b hb o e).2
      have hl8 : (wipe σ (own.map (·.2))).length = σ8.length := by rw [← hw8, wipe_length]
      have hk8 : ∀ (j : Nat) v, (wipe σ (own.map (·.2)))[j]? = some (some v) → σ8[j]? = some (some v) := fun j v e => by
        rw [← hw8] at e
        exact (wipe_some e).1
      have hk9 : ∀ (j : Nat) v, (wipe σ (own.map (·.2)))[j]? = some (some v) → (wipe σ8 vs1)[j]? = some (some v) := fun j v e => by
        rw [← hw8] at e
        obtain ⟨e1, e2⟩ := wipe_some e
        rw [wipe_out fun z => e2 (hv j z)]
        exact e1
      cases b with
      | false =>
        simp only [Bool.false_eq_true, if_false] at q9 ⊢
        exact fin I9 hl8 hk8 q9
      | true =>
        simp only [if_true] at q9 ⊢
        exact wpAny_mono (pl _ s9 σ8 H9 Nx _ I9 q9 fun s' H' I' nx => fin I' (hl8.trans (wipe_length σ8 vs1).symm) hk9 nx) (fun xv s17 hx => wpAny_mono hx (fun _ _ h => h) fun _ _ z => z.elim) fun _ _ z => z.elim
  exact codeAny_compStart_list loop (T.self X.A 0 _ _ _ st4 loop)
theorem pe_lc3 {elt tg iter tg1 iter1 tg2 iter2 : Expr} {ifs ifs1 ifs2 : List Expr} {scope : Scope} {own : List (Str × Nat)} {vs1 vs2 : List Nat} {pos : Pos} {wi wi1 wi2 : TI} {g g1 g2 : TG} {tt tt1 tt2 : TT} {te : TE} (hc : X.calm = true) (hN : X.N.Nodup) (hi : PI X tg iter wi) (ok : BlkOk X.N X.env.scope scope own) (hv : ∀ i ∈ vs1, i ∈ own.map (·.2)) (hv2 : ∀ i ∈ vs2, i ∈ vs1)
    (hg : ∀ (s : Shared) (H : Hp) (C : Addr) (cl : List (Str × Addr)) (fp : List Addr), PG (X.blk s H scope (compEnvC scope cl C X.env) fp) tg g) (ht : ∀ (s : Shared) (H : Hp) (C : Addr) (cl : List (Str × Addr)) (fp : List Addr), PTs (X.blk s H scope (compEnvC scope cl C X.env) fp) ifs tt)
    (hi1 : ∀ (s : Shared) (H : Hp) (C : Addr) (cl : List (Str × Addr)) (fp : List Addr), PI (X.blk s H scope (compEnvC scope cl C X.env) fp) tg1 iter1 wi1)
    (hg1 : ∀ (s : Shared) (H : Hp) (C : Addr) (cl : List (Str × Addr)) (fp : List Addr), PG (X.blk s H scope (compEnvC scope cl C X.env) fp) tg1 g1) (ht1 : ∀ (s : Shared) (H : Hp) (C : Addr) (cl : List (Str × Addr)) (fp : List Addr), PTs (X.blk s H scope (compEnvC scope cl C X.env) fp) ifs1 tt1)
    (hi2 : ∀ (s : Shared) (H : Hp) (C : Addr) (cl : List (Str × Addr)) (fp : List Addr), PI (X.blk s H scope (compEnvC scope cl C X.env) fp) tg2 iter2 wi2)
    (hg2 : ∀ (s : Shared) (H : Hp) (C : Addr) (cl : List (Str × Addr)) (fp : List Addr), PG (X.blk s H scope (compEnvC scope cl C X.env) fp) tg2 g2) (ht2 : ∀ (s : Shared) (H : Hp) (C : Addr) (cl : List (Str × Addr)) (fp : List Addr), PTs (X.blk s H scope (compEnvC scope cl C X.env) fp) ifs2 tt2)
    (he : ∀ (s : Shared) (H : Hp) (C : Addr) (cl : List (Str × Addr)) (fp : List Addr), PE (X.blk s H scope (compEnvC scope cl C X.env) fp) elt te) (hs : ∀ x, foldedSetIterable iter X.env x = pure x := by intro _; rfl) (hs1 : ∀ env x, foldedSetIterable iter1 env x = pure x := by intro _ _; rfl) (hs2 : ∀ env x, foldedSetIterable iter2 env x = pure x := by intro _ _; rfl) :
    PE X (LC3 elt tg iter ifs tg1 iter1 ifs1 tg2 iter2 ifs2 scope pos) (tLcN (fun D => tCl (tCl (tElt D te) wi2 g2 tt2 vs2) wi1 g1 tt1 vs1) wi g tt (own.map (·.2))) := by
  refine ⟨fun pins s σ H Q I h => ?_⟩
  show wpAny _ _ (eval (.ListComp elt _ scope pos) X.env) _ _ s
  rw [eval_ListComp]
  refine lcN_core goesOn3_0 hc hN I hi ok hv hg ht hs (fun s H C cl fp D => lp_mid goesOn3_1 starts3_1 (by decide) rfl hc hs2 (hi1 s H C cl fp) (hg1 s H C cl fp) (ht1 s H C cl fp) hv2 (lp_in goesIn3 starts3_2 (by decide) rfl hc (hi2 s H C cl fp) (hg2 s H C cl fp) (ht2 s H C cl fp) (he s H C cl fp))) hs1 h fun D C s' m H' I' q hn f => ⟨m, hn, fun h'' sb => ?_⟩
  obtain ⟨f0, f1, f2, f3, f4, f5⟩ := f
  exact ⟨.ref D, H', I'.turned (t' := s'.toks) (fun b o hb e => (sb.2 b hb).trans e) f0 f1 f3 f4 f5, rfl, q⟩
theorem ps_setLc3 {i : Nat} {y : Str} {py : Pos} {elt tg iter tg1 iter1 tg2 iter2 : Expr} {ifs ifs1 ifs2 : List Expr} {scope : Scope} {own : List (Str × Nat)} {vs1 vs2 : List Nat} {pos spos : Pos} {wi wi1 wi2 : TI} {g g1 g2 : TG} {tt tt1 tt2 : TT} {te : TE} (hc : X.calm = true) (hN : X.N.Nodup) (hy : X.N[i]? = some y) (hyl : X.env.scope.names.lookup y = some .local)
    (hsw : swapsWith (LC3 elt tg iter ifs tg1 iter1 ifs1 tg2 iter2 ifs2 scope pos) (some (.Name y py)) spos.line X.env = pure true) (hi : PI X tg iter wi) (ok : BlkOk X.N X.env.scope scope own) (hv : ∀ i ∈ vs1, i ∈ own.map (·.2)) (hv2 : ∀ i ∈ vs2, i ∈ vs1)
    (hg : ∀ (s : Shared) (H : Hp) (C : Addr) (cl : List (Str × Addr)) (fp : List Addr), PG (X.blk s H scope (compEnvC scope cl C X.env) fp) tg g) (ht : ∀ (s : Shared) (H : Hp) (C : Addr) (cl : List (Str × Addr)) (fp : List Addr), PTs (X.blk s H scope (compEnvC scope cl C X.env) fp) ifs tt)
    (hi1 : ∀ (s : Shared) (H : Hp) (C : Addr) (cl : List (Str × Addr)) (fp : List Addr), PI (X.blk s H scope (compEnvC scope cl C X.env) fp) tg1 iter1 wi1)
    (hg1 : ∀ (s : Shared) (H : Hp) (C : Addr) (cl : List (Str × Addr)) (fp : List Addr), PG (X.blk s H scope (compEnvC scope cl C X.env) fp) tg1 g1) (ht1 : ∀ (s : Shared) (H : Hp) (C : Addr) (cl : List (Str × Addr)) (fp : List Addr), PTs (X.blk s H scope (compEnvC scope cl C X.env) fp) ifs1 tt1)
    (hi2 : ∀ (s : Shared) (H : Hp) (C : Addr) (cl : List (Str × Addr)) (fp : List Addr), PI (X.blk s H scope (compEnvC scope cl C X.env) fp) tg2 iter2 wi2)
    (hg2 : ∀ (s : Shared) (H : Hp) (C : Addr) (cl : List (Str × Addr)) (fp : List Addr), PG (X.blk s H scope (compEnvC scope cl C X.env) fp) tg2 g2) (ht2 : ∀ (s : Shared) (H : Hp) (C : Addr) (cl : List (Str × Addr)) (fp : List Addr), PTs (X.blk s H scope (compEnvC scope cl C X.env) fp) ifs2 tt2)
    (he : ∀ (s : Shared) (H : Hp) (C : Addr) (cl : List (Str × Addr)) (fp : List Addr), PE (X.blk s H scope (compEnvC scope cl C X.env) fp) elt te) (hs : ∀ x, foldedSetIterable iter X.env x = pure x := by intro _; rfl) (hs1 : ∀ env x, foldedSetIterable iter1 env x = pure x := by intro _ _; rfl) (hs2 : ∀ env x, foldedSetIterable iter2 env x = pure x := by intro _ _; rfl) :
    PS X (.Assign [.Name y py] (LC3 elt tg iter ifs tg1 iter1 ifs1 tg2 iter2 ifs2 scope pos) spos) (tAsg (tLcN (fun D => tCl (tCl (tElt D te) wi2 g2 tt2 vs2) wi1 g1 tt1 vs1) wi g tt (own.map (·.2))) (gName i)) := by
  refine ⟨fun pins s σ H D I h => ?_⟩
  rw [exec_Assign_Name_used _ _ _ _ hsw]
  refine wpAny_bind (wpAny_standAt (wpAny_bind ?_))
  show wpAny _ X.A (do let _ ← comprehension (LC3 elt tg iter ifs tg1 iter1 ifs1 tg2 iter2 ifs2 scope pos) scope X.env (firstIterPos [⟨tg, iter, ifs, 0⟩, ⟨tg1, iter1, ifs1, 0⟩, ⟨tg2, iter2, ifs2, 0⟩] pos) (newList []) false (eval iter X.env) (some (assign (.Name y py) X.env))) _ _ s
  have h : tLcN (fun D => tCl (tCl (tElt D te) wi2 g2 tt2 vs2) wi1 g1 tt1 vs1) wi g tt (own.map (·.2)) σ H (fun x H1 => gName i x σ H1 D.nx) := h
  refine wpAny_bind (thn (lcN_core (Qf := fun _ s' => SP X pins D .next s') goesOn3_0 hc hN I hi ok hv hg ht hs (fun s H C cl fp D => lp_mid goesOn3_1 starts3_1 (by decide) rfl hc hs2 (hi1 s H C cl fp) (hg1 s H C cl fp) (ht1 s H C cl fp) hv2 (lp_in goesIn3 starts3_2 (by decide) rfl hc (hi2 s H C cl fp) (hg2 s H C cl fp) (ht2 s H C cl fp) (he s H C cl fp))) hs1 h fun L C s' m H' I' q hn f => ?_) fun _ s' hq => wpAny_pure (wpAny_pure hq))
  show wpAny _ _ (assign (.Name y py) X.env (.ref L)) _ _ _
  refine wpAny_assign_Name (store_ok2 (v := V.ref L) I' hN hy (.inl hyl) rfl (fun s2 I2 ⟨a, sb, ha⟩ => ?_) (.inr hyl))
  obtain ⟨f0, f1, f2, f3, f4, f5⟩ := f
  have haC : C ≠ a := by
    rcases ha with z | z
    · rw [z]; exact f1
    · exact fun e => f4 y a z e.symm
  refine ⟨m, hn.sameBut sb haC, fun h3 sb3 => ?_⟩
  exact ⟨_, H', I2.turned (t' := s2.toks) (fun b o hb e => (sb3.2 b hb).trans e) f0 f1 f3 f4 f5, q⟩
end
end FR

/-! FL17: comprehensions of several clauses, by functions -/
namespace FL
open PySem PySem.Spec PyProof.Rows L2 FR
/-- what a turn does to the list so far -/
abbrev FBody := Env → G → List D → Res (List D)
def eltF (fe : Env → G → Res D) : FBody := fun env g acc => match fe env g with
  | .ok y g1 => if acc.length < sizeLine then .ok (acc ++ [y]) g1 else .stuck
  | _ => .stuck
def turnsF (ft : D → G → Env → Option Env) (fif : Env → G → Res Bool) (inner : FBody) (env : Env) : List D → G → List D → Res (List D)
  | [], g, acc => .ok acc g
  | d :: ds, g, acc => match ft d g env with
    | none => .stuck
    | some env1 => match fif env1 g with
      | .ok true g1 => match inner env1 g1 acc with
        | .ok acc' g2 => turnsF ft fif inner env ds g2 acc'
        | _ => .stuck
      | .ok false g1 => turnsF ft fif inner env ds g1 acc
      | _ => .stuck
def clF (fi : Env → G → Res (List D)) (ft : D → G → Env → Option Env) (fif : Env → G → Res Bool) (vs : List Nat) (inner : FBody) : FBody := fun env g acc => match fi env g with
  | .ok ds g1 => turnsF ft fif inner (wipeE env vs) ds g1 acc
  | _ => .stuck
def fLcN (fi : Env → G → Res (List D)) (ft : D → G → Env → Option Env) (fif : Env → G → Res Bool) (inner : FBody) (vs : List Nat) : Env → G → Res D := fun env g => (fi env g).bind fun ds g1 => match turnsF ft fif inner (wipeE env vs) ds g1 [] with
  | .ok ys g2 => .ok (.lst ys) g2
  | _ => .stuck
/-- a step that may write at p too -/
structure StepD (p : Addr) (B : Base) (m : List Addr) (F : Hp) (g : G) (H : Hp) : Prop where
  grow : Grow B.m B.F m F
  fr : ∀ (a : Addr) (o : HO), a ≠ p → B.H a = some o → ¬ LiveAt B.m B.g a → H a = some o
  nF : ∀ (a : Addr), F a ≠ none → B.F a = none → B.H a = none ∨ LiveAt B.m B.g a
  nL : ∀ (a : Addr), LiveAt m g a → LiveAt B.m B.g a ∨ B.H a = none
  tr : ∀ (a : Addr), H a = none → B.H a = none
section
variable {K : PySem.W.Frag} {cls : Str → Addr} {W : WX} {p : Addr} {B : Base} {m m' : List Addr} {F F' : Hp} {g g' : G} {H H' : Hp} {env : Env} {os : Nat → Option Addr} {σ : L2.St}
theorem Step.toD (s : Step B m F g H) : StepD p B m F g H := ⟨s.grow, fun a o _ => s.fr a o, s.nF, s.nL, s.tr⟩
theorem StepD.trans (s : StepD p B m F g H) (t : StepD p ⟨m, F, g, H⟩ m' F' g' H') : StepD p B m' F' g' H' := by
  refine ⟨s.grow.trans t.grow, fun a o hp e l => ?_, fun a h q => ?_, fun a l => ?_, fun a h => s.tr a (t.tr a h)⟩
  · have e1 := s.fr a o hp e l
    refine t.fr a o hp e1 fun l1 => ?_
    rcases s.nL a l1 with z | z
    · exact l z
    · rw [e] at z; cases z
  · cases e : F a with
    | none =>
      rcases t.nF a h e with z | z
      · exact .inl (s.tr a z)
      · exact (s.nL a z).symm
    | some o => exact s.nF a (by rw [e]; exact fun z => by cases z) q
  · rcases t.nL a l with z | z
    · exact s.nL a z
    · exact .inr (s.tr a z)
theorem StepD.wr {o : HO} (s : StepD p B m F g H) : StepD p B m F g (upd H p o) := ⟨s.grow, fun a u hp e l => by rw [upd_ne hp]; exact s.fr a u hp e l, s.nF, s.nL, fun a h => s.tr a (up_none h)⟩
theorem StepD.ofNew (s : StepD p B m F g H) (hp : B.H p = none) : Step B m F g H := ⟨s.grow, fun a o e l => s.fr a o (ne_of_none e hp) e l, s.nF, s.nL, s.tr⟩
theorem Rl.stepD (r : Rl K cls m F g H env os σ) (hno : ∀ i, os i ≠ some p) (t : StepD p ⟨m, F, g, H⟩ m' F' g' H') (w : World K cls m' F' g' H') : Rl K cls m' F' g' H' env os σ := by
  have hk : ∀ i l, os i = some l → H' l = H l ∧ F' l = none ∧ ¬ LiveAt m' g' l := fun i l e => by
    obtain ⟨h1, h2, h4, h5⟩ := r.own i l e
    have hlp : l ≠ p := fun z => hno i (z ▸ e)
    cases q : H l with
    | none => exact absurd q h4
    | some o =>
      refine ⟨t.fr l o hlp q h2, ?_, fun z => ?_⟩
      · cases z : F' l with
        | none => rfl
        | some u =>
          rcases t.nF l (by rw [z]; exact fun y => by cases y) h1 with y | y
          · exact absurd (show H l = none from y) h4
          · exact absurd y h2
      · rcases t.nL l z with y | y
        · exact h2 y
        · exact absurd (show H l = none from y) h4
  refine ⟨w, fun i s e => ?_, r.len, fun i l e => ?_, r.inj⟩
  · have h := r.sl i s e
    cases s with
    | un => exact h
    | val d =>
      obtain ⟨o, v, h1, h2⟩ := h
      exact ⟨o, v, h1, Rep.mono t.grow _ _ h2⟩
    | lst ds =>
      obtain ⟨l, xs, h1, h2, h3, h4⟩ := h
      exact ⟨l, xs, h1, h2, (hk i l h1).1.trans h3, RepL.mono t.grow _ _ h4⟩
    | dct ds =>
      obtain ⟨l, xs, h1, h2, h3, h4⟩ := h
      exact ⟨l, xs, h1, h2, (hk i l h1).1.trans h3, RepK.mono t.grow _ _ h4⟩
  · obtain ⟨h1, h2, h4, h5⟩ := r.own i l e
    obtain ⟨k1, k2, k3⟩ := hk i l e
    exact ⟨k2, k3, by rw [k1]; exact h4, h5⟩
/-- what stands at the list that is made -/
structure At (K : PySem.W.Frag) (cls : Str → Addr) (p : Addr) (m : List Addr) (F : Hp) (g : G) (H : Hp) (acc : List V) (accD : List FL.D) : Prop where
  h : H p = some (.lst acc)
  f : F p = none
  l : ¬ LiveAt m g p
  r : RepL K cls m F acc accD
theorem At.step {acc : List V} {accD : List FL.D} (a : At K cls p m F g H acc accD) (s : Step ⟨m, F, g, H⟩ m' F' g' H') : At K cls p m' F' g' H' acc accD := by
  obtain ⟨k1, k2, k3⟩ := s.keep a.h a.f a.l
  exact ⟨k1, k2, k3, RepL.mono s.grow _ _ a.r⟩
def SC (K : PySem.W.Frag) (cls : Str → Addr) (W : WX) (t : Addr → TCl) (f : FBody) : Prop := ∀ p m F g H env os σ acc accD (Nx : Hp → Prop), Rl K cls m F g H env os σ → (∀ i, os i ≠ some p) → At K cls p m F g H acc accD →
  (match f env g accD with
    | .ok accD' g' => ∀ m' F' H' acc', StepD p ⟨m, F, g, H⟩ m' F' g' H' → World K cls m' F' g' H' → At K cls p m' F' g' H' acc' accD' → Nx H'
    | _ => False) → t p σ H Nx
theorem sc_elt {te : TE} {fe : Env → G → Res FL.D} (he : SE K cls W te fe) : SC K cls W (fun p => tElt p te) (eltF fe) := fun p m F g H env os σ acc accD Nx rl hno ha h => by
  refine he m F g H env os σ _ rl ?_
  unfold eltF at h
  cases e : fe env g with
  | exc x g1 => simp only [e] at h
  | stuck => simp only [e] at h
  | ok y g1 =>
    simp only [e] at h
    split at h
    · rename_i hacc e2
      split at e2
      · rename_i hl
        simp only [Res.ok.injEq] at e2
        obtain ⟨rfl, rfl⟩ := e2
        intro v m1 F1 H1 s w q
        have a1 := ha.step s
        refine ⟨acc, a1.h, by rw [ha.r.length]; exact hl, ?_⟩
        exact h m1 F1 _ (acc ++ [v]) s.toD.wr (w.wr a1.f a1.l) ⟨upd_same, a1.f, a1.l, a1.r.append (.cons q .nil)⟩
      · cases e2
    · exact h.elim
theorem at_of_ds {ds : List FL.D} {i : Nat} {d : FL.D} (hi : i < ds.length) (hd : ds[i]? = some d) : ds.drop i = d :: ds.drop (i + 1) := by
  rw [List.drop_eq_getElem_cons hi]
  have : ds[i] = d := by
    have := List.getElem?_eq_getElem hi
    rw [this] at hd
    exact Option.some.inj hd
  rw [this]
theorem turns_ok {J : It} {tg : TG} {ft : FL.D → G → Env → Option Env} {tt : TT} {fif : Env → G → Res Bool} {inner : Addr → TCl} {fb : FBody} {ix vs : List Nat} (hg : SG K cls ix tg ft) (hif : ST K cls W0 tt fif) (hb : SC K cls W0 inner fb) (hx : ∀ j ∈ ix, j ∈ vs) {ds : List FL.D} {acc : List V} {accD : List FL.D} {Nx : Hp → Prop}
    (rl : Rl K cls m F g H env os σ) (hno : ∀ i, os i ≠ some p) (ha : At K cls p m F g H acc accD) (q : WalkD K cls J ds m F)
    (h : match turnsF ft fif fb (wipeE env vs) ds g accD with
      | .ok accD' g' => ∀ m' F' H' acc', StepD p ⟨m, F, g, H⟩ m' F' g' H' → World K cls m' F' g' H' → At K cls p m' F' g' H' acc' accD' → Nx H'
      | _ => False) : tTurns (inner p) J tg tt vs σ H Nx := by
  obtain ⟨Gd, Y, wk, hG, hY⟩ := q
  obtain ⟨zs, g3, e0, hN⟩ : ∃ zs g3, turnsF ft fif fb (wipeE env vs) ds g accD = .ok zs g3 ∧ ∀ m' F' H' acc', StepD p ⟨m, F, g, H⟩ m' F' g3 H' → World K cls m' F' g3 H' → At K cls p m' F' g3 H' acc' zs → Nx H' := by
    cases e : turnsF ft fif fb (wipeE env vs) ds g accD with
    | ok ys g3 => simp only [e] at h; exact ⟨ys, g3, rfl, h⟩
    | exc x g3 => simp only [e] at h
    | stuck => simp only [e] at h
  refine ⟨fun i k H' => i + k = ds.length ∧ ∃ m2 F2 g2 acc2 acc2D, StepD p ⟨m, F, g, H⟩ m2 F2 g2 H' ∧ World K cls m2 F2 g2 H' ∧ At K cls p m2 F2 g2 H' acc2 acc2D ∧ turnsF ft fif fb (wipeE env vs) (ds.drop i) g2 acc2D = .ok zs g3, ⟨ds.length, by omega, m, F, g, acc, accD, (Step.refl _ _ _ _).toD, rl.w, ha, e0⟩, ?_⟩
  rintro i k H2 ⟨hik, m2, F2, g2, acc2, acc2D, s2, w2, a2, e⟩
  by_cases hi : i < ds.length
  · refine .inr ⟨wk.goes i H2 hi (hG m2 F2 g2 H2 s2.grow w2), fun H' => ∃ k', k' < k ∧ i + 1 + k' = ds.length ∧ ∃ m2 F2 g2 acc2 acc2D, StepD p ⟨m, F, g, H⟩ m2 F2 g2 H' ∧ World K cls m2 F2 g2 H' ∧ At K cls p m2 F2 g2 H' acc2 acc2D ∧ turnsF ft fif fb (wipeE env vs) (ds.drop (i + 1)) g2 acc2D = .ok zs g3, fun H' ⟨k', h1, h2, h3⟩ => ⟨k', h1, h2, h3⟩, fun x H3 y => ?_⟩
    have y' := wk.yields i H2 x H3 hi (hG m2 F2 g2 H2 s2.grow w2) y
    obtain ⟨F3, s3, w3, d, hd, qd⟩ := hY i m2 F2 g2 H2 x H3 hi s2.grow w2 y'
    rw [at_of_ds hi hd] at e
    simp only [turnsF] at e
    have s23 := s2.trans s3.toD
    have rl3 := (rl.stepD hno s23 w3).wipe vs
    have a3 := a2.step s3
    refine hg m2 F3 g2 H3 _ _ _ x d _ rl3 qd ?_
    cases e1 : ft d g2 (wipeE env vs) with
    | none => simp only [e1] at e; cases e
    | some env1 =>
      simp only [e1] at e
      intro m3 F3' H3' os4 σ4 s3' rl4 ho4 hc
      refine ⟨wipe_eq (by rw [hc.1, wipe_length]) fun j hj => hc.2 j fun z => hj (hx j z), ?_⟩
      refine hif m3 F3' g2 H3' env1 os4 σ4 _ rl4 ?_
      cases e2 : fif env1 g2 with
      | exc x g4 => simp only [e2] at e; cases e
      | stuck => simp only [e2] at e; cases e
      | ok b g4 =>
        simp only [e2] at e
        intro b' m4 F4 H4 s40 w4 eb
        subst eb
        have s4 := s3'.trans s40
        have s24 := s23.trans s4.toD
        have a4 := a3.step s4
        have hno4 : ∀ i, os4 i ≠ some p := fun i z => by
          have z1 := ho4 i p z
          have z2 : (if i ∈ vs then none else os i) = some p := z1
          split at z2
          · cases z2
          · exact hno i z2
        cases b' with
        | false =>
          simp only at e
          rw [if_neg Bool.false_ne_true]
          exact ⟨k - 1, by omega, by omega, m4, F4, g4, acc2, acc2D, s24, w4, a4, e⟩
        | true =>
          simp only at e
          rw [if_pos rfl]
          refine hb p m4 F4 g4 H4 env1 os4 σ4 acc2 acc2D _ (rl4.step s40 w4) hno4 a4 ?_
          cases e3 : fb env1 g4 acc2D with
          | exc x g5 => simp only [e3] at e; cases e
          | stuck => simp only [e3] at e; cases e
          | ok acc5 g5 =>
            simp only [e3] at e
            intro m5 F5 H5 acc5V s5 w5 a5
            exact ⟨k - 1, by omega, by omega, m5, F5, g5, acc5V, acc5, s24.trans s5, w5, a5, e⟩
  · have hi' : i = ds.length := by omega
    subst hi'
    rw [List.drop_length] at e
    simp only [turnsF, Res.ok.injEq] at e
    obtain ⟨rfl, rfl⟩ := e
    exact .inl ⟨wk.stops H2 (hG m2 F2 g2 H2 s2.grow w2), hN m2 F2 H2 acc2 s2 w2 a2⟩
theorem sc_cl {wi : TI} {fi : Env → G → Res (List FL.D)} {tg : TG} {ft : FL.D → G → Env → Option Env} {tt : TT} {fif : Env → G → Res Bool} {inner : Addr → TCl} {fb : FBody} {ix vs : List Nat} (hi : SI K cls W0 wi fi) (hg : SG K cls ix tg ft) (hif : ST K cls W0 tt fif) (hb : SC K cls W0 inner fb) (hx : ∀ j ∈ ix, j ∈ vs) :
    SC K cls W0 (fun p => tCl (inner p) wi tg tt vs) (clF fi ft fif vs fb) := fun p m F g H env os σ acc accD Nx rl hno ha h => by
  refine hi m F g H env os σ _ rl ?_
  unfold clF at h
  cases e : fi env g with
  | exc x g1 => simp only [e] at h
  | stuck => simp only [e] at h
  | ok ds g1 =>
    simp only [e] at h
    intro J m1 F1 H1 s w q
    refine turns_ok hg hif hb hx (rl.step s w) hno (ha.step s) q ?_
    cases e2 : turnsF ft fif fb (wipeE env vs) ds g1 accD with
    | exc x g2 => simp only [e2] at h
    | stuck => simp only [e2] at h
    | ok zs g2 =>
      simp only [e2] at h
      exact fun m' F' H' acc' s' w' a' => h m' F' H' acc' (s.toD.trans s') w' a'
theorem se_lcN {wi : TI} {fi : Env → G → Res (List FL.D)} {tg : TG} {ft : FL.D → G → Env → Option Env} {tt : TT} {fif : Env → G → Res Bool} {inner : Addr → TCl} {fb : FBody} {ix vs : List Nat} (hi : SI K cls W wi fi) (hg : SG K cls ix tg ft) (hif : ST K cls W0 tt fif) (hb : SC K cls W0 inner fb) (hx : ∀ j ∈ ix, j ∈ vs) :
    SE K cls W (tLcN inner wi tg tt vs) (fLcN fi ft fif fb vs) := fun m F g H env os σ Q rl h =>
  hi m F g H env os σ _ rl (h.bind fun ds g1 J m1 F1 H1 s w q h1 => by
    intro p hp
    have nF := w.hF hp
    have nL : ¬ LiveAt m1 g1 p := fun l => l.tracked w hp
    have s0 : Step ⟨m1, F1, g1, H1⟩ m1 F1 g1 (upd H1 p (.lst [])) := (Step.refl _ _ _ _).wr hp
    have w0 := w.wr (o := .lst []) nF nL
    have rl0 := (rl.step s w).step s0 w0
    have hno : ∀ i, os i ≠ some p := fun i e => by
      obtain ⟨_, _, h3, _⟩ := (rl.step s w).own i p e
      exact h3 hp
    refine turns_ok hg hif hb hx rl0 hno ⟨upd_same, nF, nL, .nil⟩ q ?_
    cases e2 : turnsF ft fif fb (wipeE env vs) ds g1 [] with
    | exc x g2 => simp only [e2] at h1; exact h1.elim
    | stuck => simp only [e2] at h1; exact h1.elim
    | ok zs g2 =>
      simp only [e2] at h1
      intro m' F' H' acc' s' w' a'
      have sb : Step ⟨m1, F1, g1, H1⟩ m' F' g2 H' := (s0.toD.trans s').ofNew hp
      exact h1 (.ref p) m' (upd F' p (.lst acc')) H' (sb.freeze a'.f hp) (w'.freeze a'.f a'.l a'.h) (.lst upd_same (RepL.mono (grow_new a'.f) _ _ a'.r)))
end
end FL

/-! FL18: three clauses as one writes them; stars in displays; reads of the def's own list; dead ends -/
namespace FL
open PySem PySem.Spec PyProof.Rows L2 FR
def allI (t : Blk TI) : TI := fun σ H R => ∀ s h C cl fp, t s h C cl fp σ H R
section
variable {K : PySem.W.Frag} {cls : Str → Addr} {X : Cx} {W : WX} {e a b elt tg iter tg1 iter1 tg2 iter2 : Expr} {es ifs ifs1 ifs2 : List Expr} {scope : Scope} {own : List (Str × Nat)} {pos pp p2 spos py : Pos} {x y : Str} {te ta tb : TE} {fe fa fb : Env → G → Res D} {tA tr : TA} {gA gr : Env → G → Res (List D)}
theorem sall_i {t : Blk TI} {f : Env → G → Res (List D)} (h : ∀ s H C cl fp, SI K cls W (t s H C cl fp) f) : SI K cls W (allI t) f := fun m F g H env os σ R rl q s h' C cl fp => h s h' C cl fp m F g H env os σ R rl q
section
variable {wi : TI} {fi fi1 fi2 : Env → G → Res (List D)} {g g1 g2 : Blk TG} {tt tt1 tt2 : Blk TT} {wi1 wi2 : Blk TI} {tee : Blk TE} {ft ft1 ft2 : D → G → Env → Option Env} {fif fif1 fif2 : Env → G → Res Bool} {ix ix1 ix2 vs1 vs2 : List Nat}
theorem fe_lc3 (vs1 vs2 : List Nat) (hc : X.calm = true) (hN : X.N.Nodup) (hi : FI cls X W tg iter wi fi) (ok : BlkOk X.N X.env.scope scope own)
    (hg : ∀ (s : Shared) (H : Hp) (C : Addr) (cl : List (Str × Addr)) (fp : List Addr), FG cls (X.blk s H scope (compEnvC scope cl C X.env) fp) tg ix (g s H C cl fp) ft) (ht : ∀ (s : Shared) (H : Hp) (C : Addr) (cl : List (Str × Addr)) (fp : List Addr), FTs cls (X.blk s H scope (compEnvC scope cl C X.env) fp) W0 ifs (tt s H C cl fp) fif)
    (hi1 : ∀ (s : Shared) (H : Hp) (C : Addr) (cl : List (Str × Addr)) (fp : List Addr), FI cls (X.blk s H scope (compEnvC scope cl C X.env) fp) W0 tg1 iter1 (wi1 s H C cl fp) fi1)
    (hg1 : ∀ (s : Shared) (H : Hp) (C : Addr) (cl : List (Str × Addr)) (fp : List Addr), FG cls (X.blk s H scope (compEnvC scope cl C X.env) fp) tg1 ix1 (g1 s H C cl fp) ft1) (ht1 : ∀ (s : Shared) (H : Hp) (C : Addr) (cl : List (Str × Addr)) (fp : List Addr), FTs cls (X.blk s H scope (compEnvC scope cl C X.env) fp) W0 ifs1 (tt1 s H C cl fp) fif1)
    (hi2 : ∀ (s : Shared) (H : Hp) (C : Addr) (cl : List (Str × Addr)) (fp : List Addr), FI cls (X.blk s H scope (compEnvC scope cl C X.env) fp) W0 tg2 iter2 (wi2 s H C cl fp) fi2)
    (hg2 : ∀ (s : Shared) (H : Hp) (C : Addr) (cl : List (Str × Addr)) (fp : List Addr), FG cls (X.blk s H scope (compEnvC scope cl C X.env) fp) tg2 ix2 (g2 s H C cl fp) ft2) (ht2 : ∀ (s : Shared) (H : Hp) (C : Addr) (cl : List (Str × Addr)) (fp : List Addr), FTs cls (X.blk s H scope (compEnvC scope cl C X.env) fp) W0 ifs2 (tt2 s H C cl fp) fif2)
    (he : ∀ (s : Shared) (H : Hp) (C : Addr) (cl : List (Str × Addr)) (fp : List Addr), FE cls (X.blk s H scope (compEnvC scope cl C X.env) fp) W0 elt (tee s H C cl fp) fe)
    (hx : ∀ j ∈ ix, j ∈ own.map (·.2)) (hx1 : ∀ j ∈ ix1, j ∈ vs1) (hx2 : ∀ j ∈ ix2, j ∈ vs2) (hv : ∀ i ∈ vs1, i ∈ own.map (·.2)) (hv2 : ∀ i ∈ vs2, i ∈ vs1)
    (hs : ∀ x, foldedSetIterable iter X.env x = pure x := by intro _; rfl) (hs1 : ∀ env x, foldedSetIterable iter1 env x = pure x := by intro _ _; rfl) (hs2 : ∀ env x, foldedSetIterable iter2 env x = pure x := by intro _ _; rfl) :
    FE cls X W (.ListComp elt [⟨tg, iter, ifs, 0⟩, ⟨tg1, iter1, ifs1, 0⟩, ⟨tg2, iter2, ifs2, 0⟩] scope pos) (tLcN (fun D => tCl (tCl (tElt D (allE tee)) (allI wi2) (allG g2) (allT tt2) vs2) (allI wi1) (allG g1) (allT tt1) vs1) wi (allG g) (allT tt) (own.map (·.2)))
      (fLcN fi ft fif (clF fi1 ft1 fif1 vs1 (clF fi2 ft2 fif2 vs2 (eltF fe))) (own.map (·.2))) :=
  ⟨pe_lc3 hc hN hi.p ok hv hv2 (fun s H C cl fp => ⟨fun pins s1 σ H1 v u Q I r q => (hg s H C cl fp).p.run pins s1 σ H1 v u Q I r (q s H C cl fp)⟩) (fun s H C cl fp => ⟨fun pins s1 σ H1 Q I q => (ht s H C cl fp).p.run pins s1 σ H1 Q I (q s H C cl fp)⟩)
      (fun s H C cl fp => ⟨fun pins s1 σ H1 R I q => (hi1 s H C cl fp).p.run pins s1 σ H1 R I (q s H C cl fp)⟩) (fun s H C cl fp => ⟨fun pins s1 σ H1 v u Q I r q => (hg1 s H C cl fp).p.run pins s1 σ H1 v u Q I r (q s H C cl fp)⟩) (fun s H C cl fp => ⟨fun pins s1 σ H1 Q I q => (ht1 s H C cl fp).p.run pins s1 σ H1 Q I (q s H C cl fp)⟩)
      (fun s H C cl fp => ⟨fun pins s1 σ H1 R I q => (hi2 s H C cl fp).p.run pins s1 σ H1 R I (q s H C cl fp)⟩) (fun s H C cl fp => ⟨fun pins s1 σ H1 v u Q I r q => (hg2 s H C cl fp).p.run pins s1 σ H1 v u Q I r (q s H C cl fp)⟩) (fun s H C cl fp => ⟨fun pins s1 σ H1 Q I q => (ht2 s H C cl fp).p.run pins s1 σ H1 Q I (q s H C cl fp)⟩)
      (fun s H C cl fp => ⟨fun pins s1 σ H1 Q I q => (he s H C cl fp).p.run pins s1 σ H1 Q I (q s H C cl fp)⟩) hs hs1 hs2,
    se_lcN hi.s (sall_g fun s H C cl fp => (hg s H C cl fp).s) (sall_t fun s H C cl fp => (ht s H C cl fp).s)
      (sc_cl (sall_i fun s H C cl fp => (hi1 s H C cl fp).s) (sall_g fun s H C cl fp => (hg1 s H C cl fp).s) (sall_t fun s H C cl fp => (ht1 s H C cl fp).s)
        (sc_cl (sall_i fun s H C cl fp => (hi2 s H C cl fp).s) (sall_g fun s H C cl fp => (hg2 s H C cl fp).s) (sall_t fun s H C cl fp => (ht2 s H C cl fp).s) (sc_elt (sall_e fun s H C cl fp => (he s H C cl fp).s)) hx2) hx1) hx⟩
theorem fs_setLc3 {i : Nat} (vs1 vs2 : List Nat) (hc : X.calm = true) (hN : X.N.Nodup) (hsw : swapsWith (.ListComp elt [⟨tg, iter, ifs, 0⟩, ⟨tg1, iter1, ifs1, 0⟩, ⟨tg2, iter2, ifs2, 0⟩] scope pos) (some (.Name y py)) spos.line X.env = pure true) (hi : FI cls X W tg iter wi fi) (ok : BlkOk X.N X.env.scope scope own)
    (hg : ∀ (s : Shared) (H : Hp) (C : Addr) (cl : List (Str × Addr)) (fp : List Addr), FG cls (X.blk s H scope (compEnvC scope cl C X.env) fp) tg ix (g s H C cl fp) ft) (ht : ∀ (s : Shared) (H : Hp) (C : Addr) (cl : List (Str × Addr)) (fp : List Addr), FTs cls (X.blk s H scope (compEnvC scope cl C X.env) fp) W0 ifs (tt s H C cl fp) fif)
    (hi1 : ∀ (s : Shared) (H : Hp) (C : Addr) (cl : List (Str × Addr)) (fp : List Addr), FI cls (X.blk s H scope (compEnvC scope cl C X.env) fp) W0 tg1 iter1 (wi1 s H C cl fp) fi1)
    (hg1 : ∀ (s : Shared) (H : Hp) (C : Addr) (cl : List (Str × Addr)) (fp : List Addr), FG cls (X.blk s H scope (compEnvC scope cl C X.env) fp) tg1 ix1 (g1 s H C cl fp) ft1) (ht1 : ∀ (s : Shared) (H : Hp) (C : Addr) (cl : List (Str × Addr)) (fp : List Addr), FTs cls (X.blk s H scope (compEnvC scope cl C X.env) fp) W0 ifs1 (tt1 s H C cl fp) fif1)
    (hi2 : ∀ (s : Shared) (H : Hp) (C : Addr) (cl : List (Str × Addr)) (fp : List Addr), FI cls (X.blk s H scope (compEnvC scope cl C X.env) fp) W0 tg2 iter2 (wi2 s H C cl fp) fi2)
    (hg2 : ∀ (s : Shared) (H : Hp) (C : Addr) (cl : List (Str × Addr)) (fp : List Addr), FG cls (X.blk s H scope (compEnvC scope cl C X.env) fp) tg2 ix2 (g2 s H C cl fp) ft2) (ht2 : ∀ (s : Shared) (H : Hp) (C : Addr) (cl : List (Str × Addr)) (fp : List Addr), FTs cls (X.blk s H scope (compEnvC scope cl C X.env) fp) W0 ifs2 (tt2 s H C cl fp) fif2)
    (he : ∀ (s : Shared) (H : Hp) (C : Addr) (cl : List (Str × Addr)) (fp : List Addr), FE cls (X.blk s H scope (compEnvC scope cl C X.env) fp) W0 elt (tee s H C cl fp) fe)
    (hx : ∀ j ∈ ix, j ∈ own.map (·.2)) (hx1 : ∀ j ∈ ix1, j ∈ vs1) (hx2 : ∀ j ∈ ix2, j ∈ vs2) (hv : ∀ i ∈ vs1, i ∈ own.map (·.2)) (hv2 : ∀ i ∈ vs2, i ∈ vs1) (hy : X.N[i]? = some y := by rfl) (hyl : X.env.scope.names.lookup y = some .local := by rfl)
    (hs : ∀ x, foldedSetIterable iter X.env x = pure x := by intro _; rfl) (hs1 : ∀ env x, foldedSetIterable iter1 env x = pure x := by intro _ _; rfl) (hs2 : ∀ env x, foldedSetIterable iter2 env x = pure x := by intro _ _; rfl) :
    FS cls X W (.Assign [.Name y py] (.ListComp elt [⟨tg, iter, ifs, 0⟩, ⟨tg1, iter1, ifs1, 0⟩, ⟨tg2, iter2, ifs2, 0⟩] scope pos) spos) (tAsg (tLcN (fun D => tCl (tCl (tElt D (allE tee)) (allI wi2) (allG g2) (allT tt2) vs2) (allI wi1) (allG g1) (allT tt1) vs1) wi (allG g) (allT tt) (own.map (·.2))) (gName i))
      (fAsg (fLcN fi ft fif (clF fi1 ft1 fif1 vs1 (clF fi2 ft2 fif2 vs2 (eltF fe))) (own.map (·.2))) (gSet i)) :=
  ⟨ps_setLc3 hc hN hy hyl hsw hi.p ok hv hv2 (fun s H C cl fp => ⟨fun pins s1 σ H1 v u Q I r q => (hg s H C cl fp).p.run pins s1 σ H1 v u Q I r (q s H C cl fp)⟩) (fun s H C cl fp => ⟨fun pins s1 σ H1 Q I q => (ht s H C cl fp).p.run pins s1 σ H1 Q I (q s H C cl fp)⟩)
      (fun s H C cl fp => ⟨fun pins s1 σ H1 R I q => (hi1 s H C cl fp).p.run pins s1 σ H1 R I (q s H C cl fp)⟩) (fun s H C cl fp => ⟨fun pins s1 σ H1 v u Q I r q => (hg1 s H C cl fp).p.run pins s1 σ H1 v u Q I r (q s H C cl fp)⟩) (fun s H C cl fp => ⟨fun pins s1 σ H1 Q I q => (ht1 s H C cl fp).p.run pins s1 σ H1 Q I (q s H C cl fp)⟩)
      (fun s H C cl fp => ⟨fun pins s1 σ H1 R I q => (hi2 s H C cl fp).p.run pins s1 σ H1 R I (q s H C cl fp)⟩) (fun s H C cl fp => ⟨fun pins s1 σ H1 v u Q I r q => (hg2 s H C cl fp).p.run pins s1 σ H1 v u Q I r (q s H C cl fp)⟩) (fun s H C cl fp => ⟨fun pins s1 σ H1 Q I q => (ht2 s H C cl fp).p.run pins s1 σ H1 Q I (q s H C cl fp)⟩)
      (fun s H C cl fp => ⟨fun pins s1 σ H1 Q I q => (he s H C cl fp).p.run pins s1 σ H1 Q I (q s H C cl fp)⟩) hs hs1 hs2,
    ss_asg (se_lcN hi.s (sall_g fun s H C cl fp => (hg s H C cl fp).s) (sall_t fun s H C cl fp => (ht s H C cl fp).s)
      (sc_cl (sall_i fun s H C cl fp => (hi1 s H C cl fp).s) (sall_g fun s H C cl fp => (hg1 s H C cl fp).s) (sall_t fun s H C cl fp => (ht1 s H C cl fp).s)
        (sc_cl (sall_i fun s H C cl fp => (hi2 s H C cl fp).s) (sall_g fun s H C cl fp => (hg2 s H C cl fp).s) (sall_t fun s H C cl fp => (ht2 s H C cl fp).s) (sc_elt (sall_e fun s H C cl fp => (he s H C cl fp).s)) hx2) hx1) hx) (sg_name i)⟩
end
/-! what is never reached -/
theorem fs_dead {st : Stmt} : FS cls X W st (fun _ _ _ => False) (fun _ _ => .stuck) := ⟨⟨fun _ _ _ _ _ _ h => h.elim⟩, fun _ _ _ _ _ _ _ _ _ _ h => h⟩
theorem fe_dead : FE cls X W e (fun _ _ _ => False) (fun _ _ => .stuck) := ⟨⟨fun _ _ _ _ _ _ h => h.elim⟩, fun _ _ _ _ _ _ _ _ _ h => h⟩
/-! stars in displays and arguments -/
def fStarA (fe : Env → G → Res D) (fr : Env → G → Res (List D)) : Env → G → Res (List D) := fun env g => (fe env g).bind fun d g1 => match seqD g1 d with
  | some xs => (fr env g1).bind fun ys g2 => .ok (xs ++ ys) g2
  | none => .stuck
theorem sa_star (he : SE K cls W te fe) (hr : SA K cls W tr gr) : SA K cls W (StX.tStar K te tr) (fStarA fe gr) := fun m F g H env os σ Q rl h =>
  he m F g H env os σ _ rl (h.bind fun d g1 v m1 F1 H1 s1 w1 r1 h1 => by
    cases e : seqD g1 d with
    | none => simp only [e] at h1; exact h1.elim
    | some xs =>
      simp only [e] at h1
      obtain ⟨p, us, rfl, hs, rr⟩ := seq_rep w1 r1 e
      refine ⟨p, us, rfl, hs.symm, hr m1 F1 g1 H1 env os σ _ (rl.step s1 w1) (h1.bind fun ys g2 vs m2 F2 H2 s2 w2 r2 h2 => h2.here w2 ((RepL.mono s2.grow _ _ rr).append r2))⟩)
/-! the def's own list read in place -/
def fIxO (i : Nat) (fb : Env → G → Res D) : Env → G → Res D := fun env g => match env[i]? with
  | some (.lst xs) => (fb env g).bind fun d g1 => match d with
    | .int k => okO (atI xs k) g1
    | _ => .stuck
  | _ => .stuck
def fLenO (i : Nat) : Env → G → Res D := fun env g => match env[i]? with
  | some (.lst xs) => .ok (.int xs.length) g
  | _ => .stuck
theorem atI_repL {m : List Addr} {F : Hp} {xs : List V} {ds : List D} {k : Int} {d : D} (r : RepL K cls m F xs ds) (e : atI ds k = some d) : ∃ v, atI xs k = some v ∧ Rep K cls m F v d := by
  unfold atI at e ⊢
  rw [r.length]
  cases q : ixN ds.length k with
  | none => rw [q] at e; cases e
  | some j =>
    rw [q] at e
    obtain ⟨v, h1, h2⟩ := r.get (i := j) e
    exact ⟨v, h1, h2⟩
theorem se_ixO {i : Nat} (hb : SE K cls W tb fb) : SE K cls W (tOp (rIxAll K) (tVar i) tb) (fIxO i fb) := fun m F g H env os σ Q rl h => by
  unfold fIxO at h
  split at h
  · rename_i xs e
    obtain ⟨l, us, h1, h2, h3, h4⟩ := rl.sl i _ e
    refine ⟨_, h2, hb m F g H env os σ _ rl (h.bind fun d g1 v m1 F1 H1 s1 w1 r1 h5 => ?_)⟩
    cases d <;> first | exact h5.elim | skip
    cases r1
    obtain ⟨l', us', k1, k2, k3, k4⟩ := (rl.step s1 w1).sl i _ e
    rw [h1] at k1
    cases k1
    rename_i kk
    have h5 : Sat K cls W σ (Rep K cls) ⟨m1, F1, g1, H1⟩ (okO (atI xs kk) g1) Q := h5
    cases q : atI xs kk with
    | none => rw [q] at h5; exact h5.elim
    | some d =>
      rw [q] at h5
      obtain ⟨u, hu, ru⟩ := atI_repL k4 q
      exact .inl (.inl ⟨l, _, _, u, rfl, rfl, SqL.of k3, hu, h5.here w1 ru⟩)
  · exact h.elim
theorem fe_ixO (i : Nat) (hu : X.A.units + 64 < cLine) (hb : FE cls X W b tb fb) (hN : X.N[i]? = some x := by rfl) (hv : Vis X.env.scope x := by first | exact Or.inl rfl | exact Or.inr (Or.inl rfl) | exact Or.inr (Or.inr rfl)) (hd : (x == ("__debug__" : Str)) = false := by decide)
    (hcd : (x == ("__classdict__" : Str)) = false := by decide) (hs : PlainIx b := by exact fun _ _ => rfl) : FE cls X W (.Subscript (.Name x pp) b pos) (tOp (rIxAll X.K) (tVar i) tb) (fIxO i fb) := ⟨pe_ix (ix_all (un1 hu)) (pe_var hN hv hd hcd) hb.p hs, se_ixO hb.s⟩
theorem se_lenO {i : Nat} : SE K cls W (tCB (rLenAll K) (tCons (tVar i) tNil)) (fLenO i) := fun m F g H env os σ Q rl h => by
  unfold fLenO at h
  split at h
  · rename_i xs e
    obtain ⟨l, us, h1, h2, h3, h4⟩ := rl.sl i _ e
    exact ⟨_, h2, .inl ⟨_, us.length, rfl, .inl ⟨us, SqL.of h3, rfl⟩, by rw [h4.length]; exact h.here rl.w (.int _)⟩⟩
  · exact h.elim
theorem fe_lenO (i : Nat) (hm : X.mg "len" = none) (hN : X.N[i]? = some x := by rfl) (hv : Vis X.env.scope x := by first | exact Or.inl rfl | exact Or.inr (Or.inl rfl) | exact Or.inr (Or.inr rfl)) (hd : (x == ("__debug__" : Str)) = false := by decide)
    (hcd : (x == ("__classdict__" : Str)) = false := by decide) (hg : Gl X "len" := by rfl) (he : starEach [.Name x pp] X.env = (false, eval (.Name x pp) X.env) :: starEach [] X.env := by rfl) (hpl : (backTo pos (starEach [] X.env)).any (·.1) = false := by rfl) :
    FE cls X W (.Call (.Name "len" p2) [.Name x pp] [] pos) (tCB (rLenAll X.K) (tCons (tVar i) tNil)) (fLenO i) := ⟨pe_callB call_lenAll hg hm bt_len (pa_cons (pe_var hN hv hd hcd) pa_nil he) (by decide) (by decide) he hpl, se_lenO⟩
/-! star in displays -/
theorem fa_star (he : FE cls X W e te fe) (hr : FA cls X W es tr gr) (hs : starEach (.Starred e p2 :: es) X.env = (true, eval e X.env) :: starEach es X.env := by rfl) : FA cls X W (.Starred e p2 :: es) (StX.tStar X.K te tr) (fStarA fe gr) := ⟨StX.pa_star he.p hr.p hs, sa_star he.s hr.s⟩
end
end FL

/-! FL19: dict comprehensions -/
namespace FL
open PySem PySem.Spec PyProof.Rows L2 FR
abbrev FBodyK := Env → G → List (Key × D) → Res (List (Key × D))
def turnsK (ft : D → G → Env → Option Env) (fif : Env → G → Res Bool) (inner : FBodyK) (env : Env) : List D → G → List (Key × D) → Res (List (Key × D))
  | [], g, acc => .ok acc g
  | d :: ds, g, acc => match ft d g env with
    | none => .stuck
    | some env1 => match fif env1 g with
      | .ok true g1 => match inner env1 g1 acc with
        | .ok acc' g2 => turnsK ft fif inner env ds g2 acc'
        | _ => .stuck
      | .ok false g1 => turnsK ft fif inner env ds g1 acc
      | _ => .stuck
/-- {k: v ..}, int and text keys -/
def putF2 (fk fv : Env → G → Res D) : FBodyK := fun env g acc => match fk env g with
  | .ok k g1 => match fv env g1 with
    | .ok v g2 => match keyD k with
      | some k' => if acc.length < sizeLine then .ok (setK acc k' v) g2 else .stuck
      | none => .stuck
    | _ => .stuck
  | _ => .stuck
def fDc (fi : Env → G → Res (List D)) (ft : D → G → Env → Option Env) (fif : Env → G → Res Bool) (fk fv : Env → G → Res D) (vs : List Nat) : Env → G → Res D := fun env g => (fi env g).bind fun ds g1 => match turnsK ft fif (putF2 fk fv) (wipeE env vs) ds g1 [] with
  | .ok ys g2 => .ok (.dct ys) g2
  | _ => .stuck
def tPut (D : Addr) (tk tv : TE) : TCl := fun σ H Nx => tk σ H fun y H4 => tv σ H4 fun z H5 => ∃ kvs k, y = kV k ∧ H5 D = some (.dK kvs) ∧ kvs.length < sizeLine ∧ Nx (upd H5 D (.dK (putK kvs k z)))
section
variable {K : PySem.W.Frag} {cls : Str → Addr} {W : WX} {p : Addr} {B : Base} {m m' : List Addr} {F F' : Hp} {g g' : G} {H H' : Hp} {env : Env} {os : Nat → Option Addr} {σ : L2.St}
/-- what stands at the list that is made -/
structure AtK (K : PySem.W.Frag) (cls : Str → Addr) (p : Addr) (m : List Addr) (F : Hp) (g : G) (H : Hp) (acc : List (Key × V)) (accD : List (Key × FL.D)) : Prop where
  h : H p = some (.dK acc)
  f : F p = none
  l : ¬ LiveAt m g p
  r : RepK K cls m F acc accD
theorem AtK.step {acc : List (Key × V)} {accD : List (Key × FL.D)} (a : AtK K cls p m F g H acc accD) (s : Step ⟨m, F, g, H⟩ m' F' g' H') : AtK K cls p m' F' g' H' acc accD := by
  obtain ⟨k1, k2, k3⟩ := s.keep a.h a.f a.l
  exact ⟨k1, k2, k3, RepK.mono s.grow _ _ a.r⟩
def SCK (K : PySem.W.Frag) (cls : Str → Addr) (W : WX) (t : Addr → TCl) (f : FBodyK) : Prop := ∀ p m F g H env os σ acc accD (Nx : Hp → Prop), Rl K cls m F g H env os σ → (∀ i, os i ≠ some p) → AtK K cls p m F g H acc accD →
  (match f env g accD with
    | .ok accD' g' => ∀ m' F' H' acc', StepD p ⟨m, F, g, H⟩ m' F' g' H' → World K cls m' F' g' H' → AtK K cls p m' F' g' H' acc' accD' → Nx H'
    | _ => False) → t p σ H Nx
theorem sck_put {tk tv : TE} {fk fv : Env → G → Res FL.D} (hk : SE K cls W tk fk) (hv : SE K cls W tv fv) : SCK K cls W (fun p => tPut p tk tv) (putF2 fk fv) := fun p m F g H env os σ acc accD Nx rl hno ha h => by
  refine hk m F g H env os σ _ rl ?_
  unfold putF2 at h
  cases e : fk env g with
  | exc x g1 => simp only [e] at h
  | stuck => simp only [e] at h
  | ok kd g1 =>
    simp only [e] at h
    intro kv m1 F1 H1 s1 w1 q1
    refine hv m1 F1 g1 H1 env os σ _ (rl.step s1 w1) ?_
    cases e1 : fv env g1 with
    | exc x g2 => simp only [e1] at h
    | stuck => simp only [e1] at h
    | ok vd g2 =>
      simp only [e1] at h
      intro vv m2 F2 H2 s2 w2 q2
      have a2 := (ha.step s1).step s2
      cases ek : keyD kd with
      | none => simp only [ek] at h
      | some k' =>
        simp only [ek] at h
        by_cases hl : accD.length < sizeLine
        · rw [if_pos hl] at h
          have hkv := key_rep q1 ek
          refine ⟨acc, k', hkv, a2.h, by rw [repK_length ha.r]; exact hl, ?_⟩
          exact h m2 F2 _ (putK acc k' vv) (s1.trans s2).toD.wr (w2.wr a2.f a2.l) ⟨upd_same, a2.f, a2.l, putK_rep q2 a2.r⟩
        · rw [if_neg hl] at h
          exact h.elim
theorem turnsK_ok {J : It} {tg : TG} {ft : FL.D → G → Env → Option Env} {tt : TT} {fif : Env → G → Res Bool} {inner : Addr → TCl} {fb : FBodyK} {ix vs : List Nat} (hg : SG K cls ix tg ft) (hif : ST K cls W0 tt fif) (hb : SCK K cls W0 inner fb) (hx : ∀ j ∈ ix, j ∈ vs) {ds : List FL.D} {acc : List (Key × V)} {accD : List (Key × FL.D)} {Nx : Hp → Prop}
    (rl : Rl K cls m F g H env os σ) (hno : ∀ i, os i ≠ some p) (ha : AtK K cls p m F g H acc accD) (q : WalkD K cls J ds m F)
    (h : match turnsK ft fif fb (wipeE env vs) ds g accD with
      | .ok accD' g' => ∀ m' F' H' acc', StepD p ⟨m, F, g, H⟩ m' F' g' H' → World K cls m' F' g' H' → AtK K cls p m' F' g' H' acc' accD' → Nx H'
      | _ => False) : tTurns (inner p) J tg tt vs σ H Nx := by
  obtain ⟨Gd, Y, wk, hG, hY⟩ := q
  obtain ⟨zs, g3, e0, hN⟩ : ∃ zs g3, turnsK ft fif fb (wipeE env vs) ds g accD = .ok zs g3 ∧ ∀ m' F' H' acc', StepD p ⟨m, F, g, H⟩ m' F' g3 H' → World K cls m' F' g3 H' → AtK K cls p m' F' g3 H' acc' zs → Nx H' := by
    cases e : turnsK ft fif fb (wipeE env vs) ds g accD with
    | ok ys g3 => simp only [e] at h; exact ⟨ys, g3, rfl, h⟩
    | exc x g3 => simp only [e] at h
    | stuck => simp only [e] at h
  refine ⟨fun i k H' => i + k = ds.length ∧ ∃ m2 F2 g2 acc2 acc2D, StepD p ⟨m, F, g, H⟩ m2 F2 g2 H' ∧ World K cls m2 F2 g2 H' ∧ AtK K cls p m2 F2 g2 H' acc2 acc2D ∧ turnsK ft fif fb (wipeE env vs) (ds.drop i) g2 acc2D = .ok zs g3, ⟨ds.length, by omega, m, F, g, acc, accD, (Step.refl _ _ _ _).toD, rl.w, ha, e0⟩, ?_⟩
  rintro i k H2 ⟨hik, m2, F2, g2, acc2, acc2D, s2, w2, a2, e⟩
  by_cases hi : i < ds.length
  · refine .inr ⟨wk.goes i H2 hi (hG m2 F2 g2 H2 s2.grow w2), fun H' => ∃ k', k' < k ∧ i + 1 + k' = ds.length ∧ ∃ m2 F2 g2 acc2 acc2D, StepD p ⟨m, F, g, H⟩ m2 F2 g2 H' ∧ World K cls m2 F2 g2 H' ∧ AtK K cls p m2 F2 g2 H' acc2 acc2D ∧ turnsK ft fif fb (wipeE env vs) (ds.drop (i + 1)) g2 acc2D = .ok zs g3, fun H' ⟨k', h1, h2, h3⟩ => ⟨k', h1, h2, h3⟩, fun x H3 y => ?_⟩
    have y' := wk.yields i H2 x H3 hi (hG m2 F2 g2 H2 s2.grow w2) y
    obtain ⟨F3, s3, w3, d, hd, qd⟩ := hY i m2 F2 g2 H2 x H3 hi s2.grow w2 y'
    rw [at_of_ds hi hd] at e
    simp only [turnsK] at e
    have s23 := s2.trans s3.toD
    have rl3 := (rl.stepD hno s23 w3).wipe vs
    have a3 := a2.step s3
    refine hg m2 F3 g2 H3 _ _ _ x d _ rl3 qd ?_
    cases e1 : ft d g2 (wipeE env vs) with
    | none => simp only [e1] at e; cases e
    | some env1 =>
      simp only [e1] at e
      intro m3 F3' H3' os4 σ4 s3' rl4 ho4 hc
      refine ⟨wipe_eq (by rw [hc.1, wipe_length]) fun j hj => hc.2 j fun z => hj (hx j z), ?_⟩
      refine hif m3 F3' g2 H3' env1 os4 σ4 _ rl4 ?_
      cases e2 : fif env1 g2 with
      | exc x g4 => simp only [e2] at e; cases e
      | stuck => simp only [e2] at e; cases e
      | ok b g4 =>
        simp only [e2] at e
        intro b' m4 F4 H4 s40 w4 eb
        subst eb
        have s4 := s3'.trans s40
        have s24 := s23.trans s4.toD
        have a4 := a3.step s4
        have hno4 : ∀ i, os4 i ≠ some p := fun i z => by
          have z1 := ho4 i p z
          have z2 : (if i ∈ vs then none else os i) = some p := z1
          split at z2
          · cases z2
          · exact hno i z2
        cases b' with
        | false =>
          simp only at e
          rw [if_neg Bool.false_ne_true]
          exact ⟨k - 1, by omega, by omega, m4, F4, g4, acc2, acc2D, s24, w4, a4, e⟩
        | true =>
          simp only at e
          rw [if_pos rfl]
          refine hb p m4 F4 g4 H4 env1 os4 σ4 acc2 acc2D _ (rl4.step s40 w4) hno4 a4 ?_
          cases e3 : fb env1 g4 acc2D with
          | exc x g5 => simp only [e3] at e; cases e
          | stuck => simp only [e3] at e; cases e
          | ok acc5 g5 =>
            simp only [e3] at e
            intro m5 F5 H5 acc5V s5 w5 a5
            exact ⟨k - 1, by omega, by omega, m5, F5, g5, acc5V, acc5, s24.trans s5, w5, a5, e⟩
  · have hi' : i = ds.length := by omega
    subst hi'
    rw [List.drop_length] at e
    simp only [turnsK, Res.ok.injEq] at e
    obtain ⟨rfl, rfl⟩ := e
    exact .inl ⟨wk.stops H2 (hG m2 F2 g2 H2 s2.grow w2), hN m2 F2 H2 acc2 s2 w2 a2⟩
theorem se_dc {wi : TI} {fi : Env → G → Res (List FL.D)} {tg : TG} {ft : FL.D → G → Env → Option Env} {tt : TT} {fif : Env → G → Res Bool} {tk tv : TE} {fk fv : Env → G → Res FL.D} {ix vs : List Nat} (hi : SI K cls W wi fi) (hg : SG K cls ix tg ft) (hif : ST K cls W0 tt fif) (hk : SE K cls W0 tk fk) (hv : SE K cls W0 tv fv) (hx : ∀ j ∈ ix, j ∈ vs) :
    SE K cls W (tDc wi tg tt tk tv vs) (fDc fi ft fif fk fv vs) := fun m F g H env os σ Q rl h =>
  hi m F g H env os σ _ rl (h.bind fun ds g1 J m1 F1 H1 s w q h1 => by
    intro p hp
    have nF := w.hF hp
    have nL : ¬ LiveAt m1 g1 p := fun l => l.tracked w hp
    have s0 : Step ⟨m1, F1, g1, H1⟩ m1 F1 g1 (upd H1 p (.dK [])) := (Step.refl _ _ _ _).wr hp
    have w0 := w.wr (o := .dK []) nF nL
    have rl0 := (rl.step s w).step s0 w0
    have hno : ∀ i, os i ≠ some p := fun i e => by
      obtain ⟨_, _, h3, _⟩ := (rl.step s w).own i p e
      exact h3 hp
    refine (turnsK_ok (Nx := fun H' => Q (.ref p) H') hg hif (sck_put hk hv) hx rl0 hno ⟨upd_same, nF, nL, .nil⟩ q ?_ : tTurns (tPut p tk tv) J tg tt vs σ (upd H1 p (.dK [])) (fun H' => Q (.ref p) H'))
    cases e2 : turnsK ft fif (putF2 fk fv) (wipeE env vs) ds g1 [] with
    | exc x g2 => simp only [e2] at h1; exact h1.elim
    | stuck => simp only [e2] at h1; exact h1.elim
    | ok zs g2 =>
      simp only [e2] at h1
      intro m' F' H' acc' s' w' a'
      have sb : Step ⟨m1, F1, g1, H1⟩ m' F' g2 H' := (s0.toD.trans s').ofNew hp
      exact h1 (.ref p) m' (upd F' p (.dK acc')) H' (sb.freeze a'.f hp) (w'.freeze a'.f a'.l a'.h) (.dct upd_same (RepK.mono (grow_new a'.f) _ _ a'.r)))
end
section
variable {cls : Str → Addr} {X : Cx} {W : WX} {kx vx tg iter : Expr} {ifs : List Expr} {scope : Scope} {own : List (Str × Nat)} {pos : Pos} {wi : TI} {fi : Env → G → Res (List D)} {g : Blk TG} {tt : Blk TT} {tk tv : Blk TE} {ft : D → G → Env → Option Env} {fif : Env → G → Res Bool} {fk fv : Env → G → Res D} {ix : List Nat}
theorem fe_dc (hc : X.calm = true) (hN : X.N.Nodup) (hi : FI cls X W tg iter wi fi) (ok : BlkOk X.N X.env.scope scope own)
    (hg : ∀ (s : Shared) (H : Hp) (C : Addr) (cl : List (Str × Addr)) (fp : List Addr), FG cls (X.blk s H scope (compEnvC scope cl C X.env) fp) tg ix (g s H C cl fp) ft) (ht : ∀ (s : Shared) (H : Hp) (C : Addr) (cl : List (Str × Addr)) (fp : List Addr), FTs cls (X.blk s H scope (compEnvC scope cl C X.env) fp) W0 ifs (tt s H C cl fp) fif)
    (hk : ∀ (s : Shared) (H : Hp) (C : Addr) (cl : List (Str × Addr)) (fp : List Addr), FE cls (X.blk s H scope (compEnvC scope cl C X.env) fp) W0 kx (tk s H C cl fp) fk)
    (he : ∀ (s : Shared) (H : Hp) (C : Addr) (cl : List (Str × Addr)) (fp : List Addr), FE cls (X.blk s H scope (compEnvC scope cl C X.env) fp) W0 vx (tv s H C cl fp) fv) (hx : ∀ j ∈ ix, j ∈ own.map (·.2)) (hs : ∀ x, foldedSetIterable iter X.env x = pure x := by intro _; rfl) :
    FE cls X W (.DictComp kx vx [⟨tg, iter, ifs, 0⟩] scope pos) (tDc wi (allG g) (allT tt) (allE tk) (allE tv) (own.map (·.2))) (fDc fi ft fif fk fv (own.map (·.2))) :=
  ⟨pe_dc hc hN hi.p ok (fun s H C cl fp => ⟨fun pins s1 σ H1 v u Q I r q => (hg s H C cl fp).p.run pins s1 σ H1 v u Q I r (q s H C cl fp)⟩) (fun s H C cl fp => ⟨fun pins s1 σ H1 Q I q => (ht s H C cl fp).p.run pins s1 σ H1 Q I (q s H C cl fp)⟩)
      (fun s H C cl fp => ⟨fun pins s1 σ H1 Q I q => (hk s H C cl fp).p.run pins s1 σ H1 Q I (q s H C cl fp)⟩) (fun s H C cl fp => ⟨fun pins s1 σ H1 Q I q => (he s H C cl fp).p.run pins s1 σ H1 Q I (q s H C cl fp)⟩) hs,
    se_dc hi.s (sall_g fun s H C cl fp => (hg s H C cl fp).s) (sall_t fun s H C cl fp => (ht s H C cl fp).s) (sall_e fun s H C cl fp => (hk s H C cl fp).s) (sall_e fun s H C cl fp => (he s H C cl fp).s) hx⟩
end
end FL

/-! FL20: C(e, .., k = v, ..) -/
namespace FR
open PySem PySem.Spec PyProof.Rows L2
section
variable {K : PySem.W.Frag} {x qual : Str} {params : Arguments} {body : List Stmt} {scope : Scope} {f : Addr} {fd : FuncData} {ps : List Str}
/-- every parameter is given, the last by keywords, in their order -/
theorem FunD.kbindsAll (F : FunD K x qual params body scope [] [] f fd) (n : Nat) (ks : List Str)
    (h : ∀ (kV doc pm : Value) (an : Option Addr) (cdv ct : Value) (us ws : List Value), us.length = n → ws.length = ks.length → bindArgs (PySem.W.fnOf x qual params body scope .none kV doc pm an cdv ct) ⟨us, ks.zip ws⟩ = pure (ps.zip (us ++ ws))) : KBn K fd ps n ks (fun us ws => us ++ ws) (fun vs zs => vs ++ zs) := by
  obtain ⟨oc, od, dV, kV, doc, pm, an, cdv, ct, osl, rfl, lk, hcd, hD, hK⟩ := F.ex
  rcases hD with ⟨_, rfl⟩ | ⟨e, _⟩
  · exact ⟨fun s us ws X l1 l2 => BindsTo.of_looks fun M => .of_pure (h kV doc pm an cdv ct us ws l1 l2), fun r1 r2 => r1.append r2⟩
  · exact absurd rfl e
end
section
variable {X : Cx} {CX : CXT} {k n : Nat} {f C : Addr} {fd : FuncData} {ps ks : List Str} {sp : Sp} {E : L2.St → XK} {x : Str} {p pos : Pos} {e : Expr} {es : List Expr} {kws : List Keyword} {t tk : TA}
def tMakeKS (C : Addr) (n m : Nat) (sp : Sp) (E : L2.St → XK) (t tk : TA) : TE := fun σ H Q => t σ H fun vs H1 => tk σ H1 fun zs H2 => vs.length = n ∧ zs.length = m ∧ ∀ x dx, H2 x = none → H2 dx = none → dx ≠ x →
  sp (.ref x :: (vs ++ zs)) (upd (upd H2 dx (.own x)) x (.ins C dx [])) (fun v H3 => v = .non ∧ Q (.ref x) H3) (E σ)
theorem run_makeKS {pins : List (Addr × Obj)} {σ : L2.St} {H : Hp} {s : Shared} {Q : VK} {us ws : List Value} {vs zs : List V} (M : Mk X.K C f) (F : FnOk X.prog X.w X.K X.mg X.base CX k f fd ps sp) (hr : Room (k + 1) X.A) (hb : KBn X.K fd ps (n + 1) ks (fun us ws => us ++ ws) (fun vs zs => vs ++ zs)) (hx : PassesAt CX X σ (E σ))
    (I : Inv X pins σ H s) (r : Vals vs us) (rz : Vals zs ws) (l1 : vs.length = n) (l2 : zs.length = ks.length)
    (h : ∀ x dx, H x = none → H dx = none → dx ≠ x → sp (.ref x :: (vs ++ zs)) (upd (upd H dx (.own x)) x (.ins C dx [])) (fun v H2 => v = .non ∧ Q (.ref x) H2) (E σ)) :
    wpAny (model X.prog X.w) X.A (call (.ref C) us (ks.zip ws)) (EP X pins σ Q) X.xe s := by
  have hq := h (s.heap.objs.size + 1) s.heap.objs.size (I.hok.fresh (Nat.le_succ _)) (I.hok.fresh (Nat.le_refl _)) (Nat.ne_of_lt (Nat.lt_succ_self _))
  have I2 := Inv.made (C := C) I
  have r1 : Vals (V.ref (s.heap.objs.size + 1) :: vs) (Value.ref (s.heap.objs.size + 1) :: us) := .cons rfl r
  have r2 := hb.rel r1 rz
  have n1 : (Value.ref (s.heap.objs.size + 1) :: us).length = n + 1 := by
    rw [List.length_cons, ← r.length, l1]
  refine wpAny_call (make_map (f := f) I.kIn M.makes M.init (beq_iff_eq.mp M.fn) (codeAny_mono (F.run _ X.stack _ _ ⟨Value.ref (s.heap.objs.size + 1) :: us, ks.zip ws⟩ ((Value.ref (s.heap.objs.size + 1) :: us) ++ ws) _ _ (E σ) (hr.make C us (ks.zip ws))
    (I2.env0.make C us (ks.zip ws)) (hb.to _ (Value.ref (s.heap.objs.size + 1) :: us) ws I2.kIn n1 (rz.length.symm.trans l2)) r2 hq) fun r s' hq' => ?_))
  cases r with
  | error e => exact hx pins _ _ e s' I2 hq'
  | ok fl =>
    cases fl with
    | ret u =>
      obtain ⟨v, H', I3, rv, ev, q3⟩ := I2.after hq'
      subst ev
      exact ⟨rv, ⟨V.ref (s.heap.objs.size + 1), H', I3, rfl, q3⟩⟩
    | next => exact False.elim hq'
    | brk => exact False.elim hq'
    | cont => exact False.elim hq'
theorem pe_makeKS (M : Mk X.K C f) (F : FnOk X.prog X.w X.K X.mg X.base CX k f fd ps sp) (hr : Room (k + 1) X.A) (hg : Gl X x) (hm : X.mg x = some (.ref C)) (hb : KBn X.K fd ps (n + 1) ks (fun us ws => us ++ ws) (fun vs zs => vs ++ zs)) (hx : ∀ σ, PassesAt CX X σ (E σ)) (ha : PA X (e :: es) t) (hkw : PK X kws tk)
    (hall : (backToKw pos (keywordEach kws X.env)).all (·.1.isSome) = true := by rfl) (hks : (backToKw pos (keywordEach kws X.env)).filterMap (·.1) = ks := by rfl) (hdb : (x == ("__debug__" : Str)) = false := by decide)
    (he : starEach (e :: es) X.env = (false, eval e X.env) :: starEach es X.env := by rfl) (hpl : ((backTo pos (starEach (e :: es) X.env)).any (·.1) || (backToKw pos (keywordEach kws X.env)).any (·.1.isNone)) = false := by rfl) :
    PE X (.Call (.Name x p) (e :: es) kws pos) (tMakeKS C n ks.length sp E t tk) := by
  refine ⟨fun pins s σ H Q I h => ?_⟩
  refine wpAny_Call_Name_kw (ld_glob I hg hm ?_ hdb)
  refine PySem.W.callWith_KW (h₀ := X.base) I.ok.mod.kin M.kp hall (thn (ha.run pos pins s σ H _ I h) fun us s1 ⟨vs, H1, I1, r, q⟩ => ?_) hpl he
  refine thn (hkw.run pos pins s1 σ H1 _ I1 q) fun ws s2 ⟨zs, H2, I2, rz, l1, l2, q2⟩ => ⟨I2.kIn, ?_⟩
  rw [hks]
  exact run_makeKS M F hr hb (hx σ) I2 r rz l1 l2 q2
end
end FR
namespace FL
open PySem PySem.Spec PyProof.Rows L2 FR
/-- the class c is made with n positional values and keywords ks, in the parameters' order -/
structure GKk (P : Program) (w : PySem.World) (K : PySem.W.Frag) (mg : Str → Option Value) (base : Heap) (cls : Str → Addr) (c : Str) (k n : Nat) (ks : List Str) (Fn : List D → G → Res D) : Prop where
  ex : ∃ f fd ps, FnOk P w K mg base (L2.CX P w) k f fd ps (spF K cls (n + ks.length + 1) Fn) ∧ Mk K (cls c) f ∧ mg c = some (.ref (cls c)) ∧ KBn K fd ps (n + 1) ks (fun us ws => us ++ ws) (fun vs zs => vs ++ zs)
  st : ∀ ds g, ds.length ≠ n + ks.length + 1 → Fn ds g = .stuck
structure FK (cls : Str → Addr) (X : Cx) (W : WX) (kws : List Keyword) (t : TA) (f : Env → G → Res (List D)) : Prop where
  p : PK X kws t
  s : SA X.K cls W t f
def fMakeK (c : Str) (n m : Nat) (Fn : List D → G → Res D) (fa fk : Env → G → Res (List D)) : Env → G → Res D := fun env g => (fa env g).bind fun ds g1 => (fk env g1).bind fun zs g2 => if ds.length = n ∧ zs.length = m then mkIns c Fn (ds ++ zs) g2 else .stuck
section
variable {X : Cx} {cls : Str → Addr} {W : WX} {c : Str} {k n : Nat} {ks : List Str} {Fn : List D → G → Res D} {e : Expr} {es : List Expr} {kws : List Keyword} {tA tk : TA} {gA gk : Env → G → Res (List D)} {te : TE} {fe : Env → G → Res D} {pos pp kpos : Pos} {nm : Option Str}
theorem fk_nil : FK cls X W [] tNil fNilA := ⟨pk_nil, sa_nil⟩
theorem fk_cons (ha : FE cls X W e te fe) (hr : FK cls X W kws tA gA) : FK cls X W (⟨nm, e, kpos⟩ :: kws) (tCons te tA) (fConsA fe gA) := ⟨pk_cons ha.p hr.p, sa_cons ha.s hr.s⟩
theorem fe_makeK (hf : GKk X.prog X.w X.K X.mg X.base cls c k n ks Fn) (tk_ : Takes X W) (hr : Room (k + 1) X.A) (ha : FA cls X W (e :: es) tA gA) (hk : FK cls X W kws tk gk) (hg : Gl X c := by rfl)
    (hall : (backToKw pos (keywordEach kws X.env)).all (·.1.isSome) = true := by rfl) (hks : (backToKw pos (keywordEach kws X.env)).filterMap (·.1) = ks := by rfl) (hdb : (c == ("__debug__" : Str)) = false := by decide)
    (he : starEach (e :: es) X.env = (false, eval e X.env) :: starEach es X.env := by rfl) (hpl : ((backTo pos (starEach (e :: es) X.env)).any (·.1) || (backToKw pos (keywordEach kws X.env)).any (·.1.isNone)) = false := by rfl) :
    FE cls X W (.Call (.Name c pp) (e :: es) kws pos) (tMakeKS (cls c) n ks.length (spF X.K cls (n + ks.length + 1) Fn) (fun σ => WE W σ) tA tk) (fMakeK c n ks.length Fn gA gk) := by
  obtain ⟨f, fd, ps, Fo, hm, hmg, hb⟩ := hf.ex
  refine ⟨pe_makeKS hm Fo hr hg hmg hb (fun σ => passAt tk_ σ) ha.p hk.p hall hks hdb he hpl, fun m F0 g H env os σ Q rl h => ha.s m F0 g H env os σ _ rl (h.bind fun ds g1 vs m1 F1 H1 s1 w1 r1 h1 => hk.s m1 F1 g1 H1 env os σ _ (rl.step s1 w1) (h1.bind fun zs g2 us m2 F2 H2 s2 w2 r2 h2 => ?_))⟩
  split at h2
  · rename_i hl
    refine ⟨by rw [r1.length]; exact hl.1, by rw [r2.length]; exact hl.2, fun x dx hx hdx hne => ?_⟩
    have w3 := w2.wr (p := dx) (o := .own x) (w2.hF hdx) fun l => l.tracked w2 hdx
    have s3 : Step ⟨m2, F2, g2, H2⟩ m2 F2 g2 (upd H2 dx (.own x)) := (Step.refl _ _ _ _).wr hdx
    have hx2 : upd H2 dx (.own x) x = none := by rw [upd_ne (Ne.symm hne)]; exact hx
    obtain ⟨w4, s4⟩ := w3.cell (c := .ins c []) (o := .ins (cls c) dx []) hx2 (fun z => by cases z) ⟨dx, [], upd_same, .nil⟩
    have s34 := s3.trans s4
    have rx : Rep X.K cls (m2 ++ [x]) F2 (.ref x) (.ref g2.length) := .ref (by rw [← w2.len, List.getElem?_append_right (Nat.le_refl _), Nat.sub_self]; rfl)
    refine sp_at (vs := .ref x :: (vs ++ us)) (ds := .ref g2.length :: (ds ++ zs)) hf.st w4 (.cons rx ((RepL.mono (s2.trans s34).grow _ _ r1).append (RepL.mono s34.grow _ _ r2))) ?_
    unfold mkIns at h2
    cases e : Fn (.ref g2.length :: (ds ++ zs)) (g2 ++ [.ins c []]) with
    | ok d g3 =>
      simp only [e] at h2
      cases d <;> first | exact h2.elim | skip
      intro v m5 F5 H5 s w r
      cases r
      exact ⟨rfl, h2 _ m5 F5 H5 (s34.trans s) w (Rep.mono s.grow _ _ rx)⟩
    | exc x g3 => simp only [e] at h2; exact fun cl dx m5 F5 H5 s w q => h2 cl dx m5 F5 H5 (s34.trans s) w q
    | stuck => simp only [e] at h2; exact h2.elim
  · exact h2.elim
end
end FL

/-! FL21: a list unpacked into names; isinstance with an own class -/
namespace FL
open PySem PySem.Spec PyProof.Rows L2 FR
abbrev tyAll : List String := ["NoneType", "bool", "int", "str", "tuple", "list", "dict"]
def gUnlF (f : List D → G → Env → Option Env) (n : Nat) : D → G → Env → Option Env := fun d g env => match d with
  | .lst ds => if ds.length = n then f ds g env else none
  | _ => none
/-- an own class whose instances answer isinstance -/
structure OwnC (K : PySem.W.Frag) (C : Addr) : Prop where
  cl : Cls K C
  ha : PySem.W.findIn K (.ref C) "__class__" = some (some (.builtin "object.__class__"))
  hn : PySem.W.specialIn K (.builtin "object.__class__") "__get__" = some (some (.builtin "getset_descriptor.__get__"))
  htk : PySem.W.takesIn K (.builtin "object.__class__") = some true
  hm : PySem.W.mroIn K C (.type "object") = some true
/-- isinstance(d, C): tab tells it of instances of own classes; what is built in is none -/
def dIsC (tab : List (Str × Bool)) (d : D) (g : G) : Res D := match insD g d with
  | some (c, _) => match tab.lookup c with
    | some b => .ok (.bl b) g
    | none => .stuck
  | none => match tyD g d with
    | some _ => .ok (.bl false) g
    | none => .stuck
section
variable {K : PySem.W.Frag} {cls : Str → Addr} {W : WX} {X : Cx} {ta te : TE} {fa fe : Env → G → Res D} {es : List Expr} {pos pp p3 : Pos} {e : Expr} {x2 : Str}
theorem sg_unl {n : Nat} {tgs : TGs} {fr : List D → G → Env → Option Env} {ix : List Nat} (h1 : SGs K cls ix tgs fr) : SG K cls ix (L2.gUnl K n tgs) (gUnlF fr n) := fun m F g H env os σ v d Q rl q h => by
  cases d <;> first | exact h.elim | skip
  cases q with
  | lst a b =>
    simp only [gUnlF] at h
    split at h
    · rename_i envx e
      split at e
      · rename_i hl
        refine ⟨_, _, rfl, SqL.of (rl.w.fe _ _ a), by rw [b.length]; exact hl, h1 m F g H env os σ _ _ Q rl b ?_⟩
        rw [e]
        exact h
      · cases e
    · exact h.elim
theorem fg_unl {ix : List Nat} {k n : Nat} {u : TGs} {r : List D → G → Env → Option Env} (hc : X.calm = true) (h : FGs cls X es ix u r) (hn : (assignEach es X.env).length = n := by rfl) (hst : (assignEach es X.env).findIdx? (·.1) = none := by rfl) : FG cls X (.Tuple es k pos) ix (L2.gUnl X.K n u) (gUnlF r n) :=
  ⟨L2.pg_unl hc h.p hn hst, sg_unl h.s⟩
theorem se_isC {tab : List (Str × Bool)} {c0 : Addr} (ho : ∀ c b, tab.lookup c = some b → OwnC K (cls c) ∧ PySem.W.kitOne K (.ref (cls c)) (.ref c0) = some b) (hb : ∀ t ∈ tyAll, PySem.W.kitOne K (.type t) (.ref c0) = some false) (ha : SE K cls W ta fa) :
    SE K cls W (tCB (rIsi K) (tCons ta (tCons (tC (.ref c0)) tNil))) (f1 (dIsC tab) fa) := fun m F g H env os σ Q rl h =>
  ha m F g H env os σ _ rl (h.bind fun a g1 x m1 F1 H1 s1 w1 r1 h1 => by
    unfold dIsC at h1
    cases e : insD g1 a with
    | some cf =>
      obtain ⟨c, fs⟩ := cf
      simp only [e] at h1
      cases e2 : tab.lookup c with
      | none => simp only [e2] at h1; exact h1.elim
      | some b =>
        simp only [e2] at h1
        obtain ⟨p, dx, xs, rfl, hH, rF⟩ := ins_rep w1 r1 e
        obtain ⟨o, hk⟩ := ho c b e2
        exact ⟨_, .ref c0, _, _, b, rfl, .own c0, .base (.ins hH o.cl o.ha o.hn o.htk o.hm), hk, h1.here w1 (.bl _)⟩
    | none =>
      simp only [e] at h1
      cases e2 : tyD g1 a with
      | none => simp only [e2] at h1; exact h1.elim
      | some t =>
        simp only [e2] at h1
        obtain ⟨ty, hm⟩ := tyD_rep w1 r1 e2
        exact ⟨_, .ref c0, _, _, false, rfl, .own c0, ty, hb t hm, h1.here w1 (.bl _)⟩)
theorem fe_isC {tab : List (Str × Bool)} {c0 : Addr} (ho : ∀ c b, tab.lookup c = some b → OwnC X.K (cls c) ∧ PySem.W.kitOne X.K (.ref (cls c)) (.ref c0) = some b) (hb : ∀ t ∈ tyAll, PySem.W.kitOne X.K (.type t) (.ref c0) = some false) (hm : X.mg "isinstance" = none) (hm2 : X.mg x2 = some (.ref c0)) (ha : FE cls X W e ta fa) (hg : Gl X "isinstance" := by rfl) (hg2 : Gl X x2 := by rfl) (hd2 : (x2 == ("__debug__" : Str)) = false := by decide)
    (he : starEach (e :: [.Name x2 p3]) X.env = (false, eval e X.env) :: starEach [.Name x2 p3] X.env := by rfl) (hpl : (backTo pos (starEach [.Name x2 p3] X.env)).any (·.1) = false := by rfl) :
    FE cls X W (.Call (.Name "isinstance" pp) [e, .Name x2 p3] [] pos) (tCB (rIsi X.K) (tCons ta (tCons (tC (.ref c0)) tNil))) (f1 (dIsC tab) fa) :=
  ⟨pe_callB call_isi hg hm bt_isi (pa_cons ha.p (pa_cons (pe_glob hg2 hm2 rfl hd2) pa_nil) he) (by decide) (by decide) he hpl, se_isC ho hb ha.s⟩
end
end FL

/-! FL22: == by an own __eq__, any answer -/
namespace FR
open PySem PySem.Spec PyProof.Rows L2
section
variable {X : Cx} {CX : CXT} {k : Nat} {C f : Addr} {fd : FuncData} {ps : List Str} {sp : Sp}
def rEqOwn (C : Addr) (sp : Sp) : R2 := fun x y H Q => ∃ a b dx dy fs gs, x = .ref a ∧ y = .ref b ∧ H a = some (.ins C dx fs) ∧ H b = some (.ins C dy gs) ∧ sp [.ref a, .ref b] H (fun v H' => ∃ t : Bool, v = .bl t ∧ Q (.bl t) H') (fun _ _ _ => False)
theorem op_eqOwn (F : FnOk X.prog X.w X.K X.mg X.base CX k f fd ps sp) (hs : PySem.W.findIn X.K (.ref C) "__eq__" = some (some (.ref f))) (hf : PySem.W.isFn X.K (.ref f) = true) (hb : Binds X.K fd ps []) (hx : Passes CX X (fun _ _ _ => False)) (hr : Room k X.A) :
    OpR X (compareOp .Eq) (rEqOwn C sp) := by
  intro pins s σ H x y v u Q I rx ry hq
  show wpAny (model X.prog X.w) X.A (richCompare .Eq v u) (EP X pins σ Q) X.xe s
  obtain ⟨a, b, dx, dy, fs, gs, rfl, rfl, ha, hb', hsp⟩ := hq
  cases rx
  cases ry
  obtain ⟨mA, J, _⟩ := ins_get I.hok ha
  obtain ⟨mB, J', _⟩ := ins_get I.hok hb'
  obtain ⟨od, J, _⟩ := J.look
  obtain ⟨od', J', _⟩ := J'.look
  obtain ⟨m, hF⟩ := I.fr
  have sb : Sub X k X.A := ⟨hr, rfl⟩
  refine PySem.W.cmp_K (op := .Eq) (tb := .ref C) sb.room.units0 hF I.ok.mod.kin J J'.type (by simp [PySem.W.notFirst]) hs hf ?_
  have hl := F.len _ _ _ _ hsp
  have r2 : Vals [V.ref a, V.ref b] [Value.ref a, Value.ref b] := .cons rfl (.cons rfl .nil)
  refine wpAny_call (codeAny_mono (F.run X.A X.stack s H ⟨[.ref a, .ref b], []⟩ [.ref a, .ref b] [.ref a, .ref b] _ _ hr I.env0 (by
    have := hb s [.ref a, .ref b] I.kIn (by simpa using hl)
    simpa using this) r2 hsp) fun r s' hq => ?_)
  cases r with
  | error e => exact hx pins σ H s e s' I hq
  | ok fl =>
    cases fl with
    | ret w =>
      obtain ⟨z, H', I', rz, t, ez, q⟩ := I.after hq
      subst ez
      cases rz
      exact ⟨.bl t, H', I', rfl, q⟩
    | next => exact False.elim hq
    | brk => exact False.elim hq
    | cont => exact False.elim hq
end
end FR
namespace FL
open PySem PySem.Spec PyProof.Rows L2 FR
/-- a == b, instances of the class c -/
def dEqC (c : Str) (Fn : List D → G → Res D) (a b : D) (g : G) : Res D := match insD g a, insD g b with
  | some (c1, _), some (c2, _) => if c1 = c ∧ c2 = c then (match Fn [a, b] g with
    | .ok (.bl t) g1 => .ok (.bl t) g1
    | _ => .stuck) else .stuck
  | _, _ => .stuck
/-- the class c has its own == -/
structure GE (P : Program) (w : PySem.World) (K : PySem.W.Frag) (mg : Str → Option Value) (base : Heap) (cls : Str → Addr) (c : Str) (k : Nat) (Fn : List D → G → Res D) : Prop where
  ex : ∃ f fd ps, FnOk P w K mg base (L2.CX P w) k f fd ps (spF K cls 2 Fn) ∧ PySem.W.findIn K (.ref (cls c)) "__eq__" = some (some (.ref f)) ∧ PySem.W.isFn K (.ref f) = true ∧ L2.Binds K fd ps []
theorem fe_eqC {X : Cx} {cls : Str → Addr} {W : WX} {c : Str} {k : Nat} {Fn : List D → G → Res D} {a b : Expr} {pos : Pos} {ta tb : TE} {fa fb : Env → G → Res D} (hf : GE X.prog X.w X.K X.mg X.base cls c k Fn) (hr : Room k X.A) (ha : FE cls X W a ta fa) (hb : FE cls X W b tb fb) :
    FE cls X W (.Compare a [.Eq] [b] pos) (tOp (rEqOwn (cls c) (spF X.K cls 2 Fn)) ta tb) (f2 (dEqC c Fn) fa fb) := by
  obtain ⟨f, fd, ps, Fo, hs, hfn, hbi⟩ := hf.ex
  refine ⟨pe_cmpR (op_eqOwn Fo hs hfn hbi ?_ hr) ha.p hb.p (nomark _), se_op ?_ ha.s hb.s⟩
  · intro pins σ H s e s' I hc
    obtain ⟨_, _, _, _, _, _, _, _, _, _, _, _, z⟩ := hc
    exact z.elim
  · intro m F g H σ Q x y d1 d2 w r1 r2 h
    unfold dEqC at h
    cases e1 : insD g d1 with
    | none => simp only [e1] at h; exact h.elim
    | some p1 =>
      cases e2 : insD g d2 with
      | none => simp only [e1, e2] at h; exact h.elim
      | some p2 =>
        obtain ⟨c1, fs1⟩ := p1
        obtain ⟨c2, fs2⟩ := p2
        simp only [e1, e2] at h
        by_cases hc : c1 = c ∧ c2 = c
        · rw [if_pos hc] at h
          obtain ⟨rfl, rfl⟩ := hc
          obtain ⟨p, dx, xs, rfl, hH, rF⟩ := ins_rep w r1 e1
          obtain ⟨p', dx', xs', rfl, hH', rF'⟩ := ins_rep w r2 e2
          refine ⟨p, p', dx, dx', xs, xs', rfl, rfl, hH, hH', rfl, m, F, g, [d1, d2], w, .cons r1 (.cons r2 .nil), ?_⟩
          cases e3 : Fn [d1, d2] g with
          | exc x g1 => simp only [e3] at h; exact h.elim
          | stuck => simp only [e3] at h; exact h.elim
          | ok d g1 =>
            simp only [e3] at h
            cases d <;> first | exact h.elim | skip
            intro v m1 F1 H1 s w1 r
            cases r
            exact ⟨_, rfl, h _ m1 F1 H1 s w1 (.bl _)⟩
        · rw [if_neg hc] at h; exact h.elim
end FL

/-! FL23: what raises nothing (properties) -/
namespace FL
open PySem PySem.Spec PyProof.Rows L2 FR
def NX {α : Type} (f : Env → G → Res α) : Prop := ∀ env g x g', f env g ≠ .exc x g'
theorem NX.bind {α β : Type} {f : Env → G → Res α} {k : Env → α → G → Res β} (h : NX f) (hk : ∀ env a g x g', k env a g ≠ .exc x g') : NX fun env g => (f env g).bind (k env) := fun env g x g' e => by
  have e' : (f env g).bind (k env) = .exc x g' := e
  cases q : f env g with
  | ok a g1 => rw [q] at e'; exact hk env a g1 x g' e'
  | exc y g1 => exact h env g y g1 q
  | stuck => rw [q] at e'; cases e'
theorem nx_var {i : Nat} : NX (fVar i) := fun env g x g' e => by
  unfold fVar at e
  split at e <;> cases e
theorem nx_c {d : D} : NX (fC d) := fun env g x g' e => by cases e
theorem nx_fld {cs : List Str} {f : Str} {fe : Env → G → Res D} (h : NX fe) : NX (f1 (dFld cs f) fe) := NX.bind (k := fun _ => dFld cs f) h fun env a g x g' e => by
  unfold dFld at e
  split at e
  · split at e
    · rename_i c fs _ _
      cases q : fs.lookup f with
      | none => rw [q] at e; cases e
      | some d => rw [q] at e; cases e
    · cases e
  · cases e
theorem nx_nil : NX fNilA := fun env g x g' e => by cases e
theorem nx_cons {fa : Env → G → Res D} {fr : Env → G → Res (List D)} (h1 : NX fa) (h2 : NX fr) : NX (fConsA fa fr) := NX.bind (k := fun env a g => (fr env g).bind fun r g2 => .ok (a :: r) g2) h1 fun env a g x g' e =>
  NX.bind (k := fun _ r g2 => .ok (a :: r) g2) h2 (fun _ _ _ _ _ z => by cases z) env g x g' e
theorem nx_tup {fa : Env → G → Res (List D)} (h : NX fa) : NX (fTup fa) := NX.bind (k := fun _ (ds : List D) (g1 : G) => if ds.length ≤ sizeLine then Res.ok (D.tup ds) g1 else .stuck) h fun env a g x g' e => by
  split at e <;> cases e
theorem nx_lst {fa : Env → G → Res (List D)} (h : NX fa) : NX (fLst fa) := NX.bind (k := fun _ (ds : List D) (g1 : G) => if ds.length ≤ sizeLine then Res.ok (D.lst ds) g1 else .stuck) h fun env a g x g' e => by
  split at e <;> cases e
theorem nx_len {fa : Env → G → Res (List D)} (h : NX fa) : NX (fCall dLen fa) := NX.bind (k := fun _ => dLen) h fun env a g x g' e => by
  unfold dLen at e
  split at e
  · split at e
    · cases e
    · split at e
      · cases e
      · split at e
        · split at e <;> cases e
        · cases e
  · cases e
theorem nx_ret {fa : Env → G → Res D} {n : Nat} (h : NX fa) : ∀ d g x g', bodyF 1 n (fRet fa) [d] g ≠ .exc x g' := fun d g x g' e => by
  unfold bodyF at e
  rw [if_pos (show [d].length = 1 from rfl)] at e
  unfold fRet at e
  cases q : fa (startE n [d]) g with
  | ok a g1 => rw [q] at e; cases e
  | exc y g1 => exact h _ _ _ _ q
  | stuck => rw [q] at e; cases e
end FL

/-! FL24: append to the def's own list -/
namespace FL
open PySem PySem.Spec PyProof.Rows L2 FR
theorem fs_appO {X : Cx} {cls : Str → Addr} {W : WX} {e : Expr} {ta : TE} {fa : Env → G → Res D} {x : Str} {pp apos cpos pos : Pos} (i : Nat) (h : FE cls X W e ta fa) (hN : X.N[i]? = some x := by rfl) (hv : Vis X.env.scope x := by first | exact Or.inl rfl | exact Or.inr (Or.inl rfl) | exact Or.inr (Or.inr rfl)) (hd : (x == ("__debug__" : Str)) = false := by decide)
    (hcd : (x == ("__classdict__" : Str)) = false := by decide) (hb : attributeBase (.Name x pp) "append" X.env (eval (.Name x pp) X.env) = eval (.Name x pp) X.env := by rfl) (hl : (apos.endLine == cpos.line) = true := by rfl) (he : starEach [e] X.env = (false, eval e X.env) :: starEach [] X.env := by rfl) (hs : swapsWith (.Call (.Attribute (.Name x pp) "append" apos) [e] [] cpos) none pos.line X.env = pure false := by rfl) :
    FS cls X W (.Expr (.Call (.Attribute (.Name x pp) "append" apos) [e] [] cpos) pos) (tDrop (tBM X.K "list" rAppend (tVar i) (tCons ta tNil))) (fAppO i fa) :=
  ⟨ps_expr (pe_bm PySem.F.plainAttrs_list PySem.F.slot_list_append PySem.F.type_list_append mt_append (pe_var hN hv hd hcd) (pa_cons h.p pa_nil he) hb (by rw [he]; rfl) hl he rfl) hs, ss_appO h.s⟩
end FL

/-! FL25: an own == as a test -/
namespace FL
open PySem PySem.Spec PyProof.Rows L2 FR
theorem ft_eqC {X : Cx} {cls : Str → Addr} {W : WX} {c : Str} {k : Nat} {Fn : List D → G → Res D} {a b : Expr} {pos : Pos} {ta tb : TE} {fa fb : Env → G → Res D} (hf : GE X.prog X.w X.K X.mg X.base cls c k Fn) (hr : Room k X.A) (ha : FE cls X W a ta fa) (hb : FE cls X W b tb fb) :
    FT cls X W (.Compare a [.Eq] [b] pos) (tTest (tOp (rEqOwn (cls c) (spF X.K cls 2 Fn)) ta tb)) (fTest (f2 (dEqC c Fn) fa fb)) := by
  have hs := (fe_eqC (pos := pos) hf hr ha hb).s
  obtain ⟨f, fd, ps, Fo, h1, hfn, hbi⟩ := hf.ex
  refine ⟨pt_cmpR (op_eqOwn Fo h1 hfn hbi ?_ hr) ha.p hb.p (nomark _), st_test hs⟩
  intro pins σ H s e s' I hc
  obtain ⟨_, _, _, _, _, _, _, _, _, _, _, _, z⟩ := hc
  exact z.elim
end FL

/-! FL26: list.index; append and extend, on cells and on own lists; cells out of comprehensions and own lists -/
namespace FL
open PySem PySem.Spec PyProof.Rows L2 FR
/-- the place of the first equal item -/
def idxF (x : D) : List D → Nat → Option Nat
  | [], _ => none
  | y :: ys, n => if (eqF y x).getD false = true then some n else idxF x ys (n + 1)
theorem idxF_at {x : D} : ∀ {ys : List D} {n j : Nat}, idxF x ys n = some j → n ≤ j ∧ (∃ z, ys[j - n]? = some z ∧ (eqF z x).getD false = true) ∧ ∀ i z, i < j - n → ys[i]? = some z → (eqF z x).getD false = false
  | [], _, _, h => by cases h
  | y :: ys, n, j, h => by
    unfold idxF at h
    split at h
    · rename_i hy
      cases h
      refine ⟨Nat.le_refl _, ⟨y, by rw [Nat.sub_self]; rfl, hy⟩, fun i z hi => absurd hi (by omega)⟩
    · rename_i hy
      obtain ⟨h1, ⟨z, h2, h3⟩, h4⟩ := idxF_at h
      refine ⟨by omega, ⟨z, ?_, h3⟩, fun i z hi hz => ?_⟩
      · rw [show j - n = (j - (n + 1)) + 1 by omega]; exact h2
      · cases i with
        | zero =>
          have : y = z := by simpa using hz
          subst this
          cases e : (eqF y x).getD false with
          | true => exact absurd e hy
          | false => rfl
        | succ i => exact h4 i z (by omega) (by simpa using hz)
/-- the items of a list -/
def lstD (g : G) : D → Option (List D)
  | .lst xs => some xs
  | .ref n => match g[n]? with
    | some (.lst xs) => some xs
    | _ => none
  | _ => none
def dIndex (a x : D) (g : G) : Res D := match lstD g a with
  | some xs => if flatD x = true ∧ xs.all flatD = true then (match idxF x xs 0 with
    | some j => .ok (.int j) g
    | none => .stuck) else .stuck
  | none => .stuck
/-- o.m(e) where o is a list -/
def fLstM (op : D → D → G → Res D) (fo fe : Env → G → Res D) : Env → G → Res D := fun env g => (fo env g).bind fun a g1 => match lstD g1 a with
  | some _ => (fe env g1).bind fun x g2 => op a x g2
  | none => .stuck
def dAppC (o x : D) (g : G) : Res D := match o with
  | .ref n => match g[n]? with
    | some (.lst xs) => if xs.length < sizeLine then .ok .non (g.set n (.lst (xs ++ [x]))) else .stuck
    | _ => .stuck
  | _ => .stuck
def dExtC (o x : D) (g : G) : Res D := match o with
  | .ref n => match g[n]? with
    | some (.lst xs) => match lstD g x with
      | some ys => if xs.length + ys.length ≤ sizeLine then .ok .non (g.set n (.lst (xs ++ ys))) else .stuck
      | none => .stuck
    | _ => .stuck
  | _ => .stuck
def fExtO (i : Nat) (fe : Env → G → Res D) : Env → G → SRes := fun env g => match env[i]? with
  | some (.lst xs) => eS env (fe env g) fun d g1 => match lstD g1 d with
    | some ys => if xs.length + ys.length ≤ sizeLine then .next (env.set i (.lst (xs ++ ys))) g1 else .stuck
    | none => .stuck
  | _ => .stuck
/-- from here on the own list is a cell -/
def fPub (i : Nat) (f : Env → G → SRes) : Env → G → SRes := fun env g => match env[i]? with
  | some (.lst xs) => f (env.set i (.val (.ref g.length))) (g ++ [.lst xs])
  | _ => f env g
section
variable {K : PySem.W.Frag} {cls : Str → Addr} {W : WX} {m : List Addr} {F H : Hp} {g : G} {env : Env} {os : Nat → Option Addr} {σ : L2.St} {ta to te : TE} {fa fo fe : Env → G → Res D}
theorem lst_rep (w : World K cls m F g H) {v : V} {d : D} {ds : List D} (r : Rep K cls m F v d) (e : lstD g d = some ds) : ∃ p xs, v = .ref p ∧ H p = some (.lst xs) ∧ RepL K cls m F xs ds := by
  cases d with
  | lst ys =>
    cases e
    cases r with
    | lst a b => exact ⟨_, _, rfl, w.fe _ _ a, b⟩
  | ref n =>
    have e2 : (match g[n]? with | some (.lst xs) => some xs | _ => none) = some ds := e
    split at e2
    · rename_i ys ec
      cases e2
      obtain ⟨a, rfl, em, us, hH, hL⟩ := live_of w r ec
      exact ⟨a, us, rfl, hH, hL⟩
    · cases e2
  | _ => cases e
theorem se_lstM {r : V → List V → Hp → VK → Prop} {op : D → D → G → Res D} (hop : ∀ m F g H σ (Q : VK) x y a b, World K cls m F g H → Rep K cls m F x a → Rep K cls m F y b → Sat K cls W σ (Rep K cls) ⟨m, F, g, H⟩ (op a b g) Q → r x [y] H Q) (ho : SE K cls W to fo) (he : SE K cls W te fe) :
    SE K cls W (tBM K "list" r to (tCons te tNil)) (fLstM op fo fe) := fun m F g H env os σ Q rl h =>
  ho m F g H env os σ _ rl (h.bind fun a g1 x m1 F1 H1 s1 w1 r1 h1 => by
    cases e : lstD g1 a with
    | none => simp only [e] at h1; exact h1.elim
    | some ds =>
      simp only [e] at h1
      obtain ⟨p, xs, rfl, hH, _⟩ := lst_rep w1 r1 e
      refine ⟨.inl ⟨rfl, xs, SqL.of hH⟩, he m1 F1 g1 H1 env os σ _ (rl.step s1 w1) (h1.bind fun b g2 y m2 F2 H2 s2 w2 r2 h2 => ?_)⟩
      exact hop m2 F2 g2 H2 σ Q _ y a b w2 (Rep.mono s2.grow _ _ r1) r2 h2)
theorem op_index {m : List Addr} {F : Hp} {g : G} {H : Hp} {σ : L2.St} {Q : VK} {x y : V} {a b : D} (w : World K cls m F g H) (ra : Rep K cls m F x a) (rb : Rep K cls m F y b) (h : Sat K cls W σ (Rep K cls) ⟨m, F, g, H⟩ (dIndex a b g) Q) : rIndex K x [y] H Q := by
  unfold dIndex at h
  cases e : lstD g a with
  | none => simp only [e] at h; exact h.elim
  | some ds =>
    simp only [e] at h
    split at h
    · rename_i hf
      obtain ⟨p, us, rfl, hH, rl⟩ := lst_rep w ra e
      cases ej : idxF b ds 0 with
      | none => simp only [ej] at h; exact h.elim
      | some j =>
        simp only [ej] at h
        obtain ⟨_, ⟨z, h2, h3⟩, h4⟩ := idxF_at ej
        rw [Nat.sub_zero] at h2 h4
        obtain ⟨vz, hz, rz⟩ := rl.get h2
        have fz : ∀ z ∈ ds, flatD z = true := List.all_eq_true.mp hf.2
        refine ⟨p, us, y, j, vz, rfl, rfl, SqL.of hH, flat_rep rb hf.1, flat_repL rl hf.2, hz, ?_, fun i z' hi hz' => ?_, h.here w (.int _)⟩
        · rw [eqV_rep rb rz hf.1 (fz z (List.mem_of_getElem? h2))]; exact h3
        · have hil : i < ds.length := by rw [← rl.length]; exact (List.getElem?_eq_some_iff.mp hz').1
          obtain ⟨v', h5, h6⟩ := rl.get (List.getElem?_eq_getElem hil)
          rw [hz'] at h5
          cases h5
          rw [eqV_rep rb h6 hf.1 (fz _ (List.getElem_mem hil))]
          exact h4 i _ hi (List.getElem?_eq_getElem hil)
    · exact h.elim
theorem op_app {m : List Addr} {F : Hp} {g : G} {H : Hp} {σ : L2.St} {Q : VK} {x y : V} {a b : D} (w : World K cls m F g H) (ra : Rep K cls m F x a) (rb : Rep K cls m F y b) (h : Sat K cls W σ (Rep K cls) ⟨m, F, g, H⟩ (dAppC a b g) Q) : rAppend x [y] H Q := by
  unfold dAppC at h
  split at h
  · rename_i n
    split at h
    · rename_i xs ec
      split at h
      · rename_i hl
        obtain ⟨p, rfl, em, us, hH, hL⟩ := live_of w ra ec
        obtain ⟨w4, s4⟩ := w.setCell (c' := .lst (xs ++ [b])) (o := .lst (us ++ [y])) ec (fun z => by cases z) em (fun z => by cases z) ⟨_, upd_same, hL.append (.cons rb .nil)⟩
        exact ⟨p, us, y, rfl, rfl, hH, by rw [hL.length]; exact hl, h _ m F _ s4 w4 .non⟩
      · exact h.elim
    · exact h.elim
  · exact h.elim
theorem op_ext {m : List Addr} {F : Hp} {g : G} {H : Hp} {σ : L2.St} {Q : VK} {x y : V} {a b : D} (w : World K cls m F g H) (ra : Rep K cls m F x a) (rb : Rep K cls m F y b) (h : Sat K cls W σ (Rep K cls) ⟨m, F, g, H⟩ (dExtC a b g) Q) : rExtend x [y] H Q := by
  unfold dExtC at h
  split at h
  · rename_i n
    split at h
    · rename_i xs ec
      cases e : lstD g b with
      | none => simp only [e] at h; exact h.elim
      | some ys =>
        simp only [e] at h
        split at h
        · rename_i hl
          obtain ⟨p, rfl, em, us, hH, hL⟩ := live_of w ra ec
          obtain ⟨q, zs, rfl, hH2, hL2⟩ := lst_rep w rb e
          obtain ⟨w4, s4⟩ := w.setCell (c' := .lst (xs ++ ys)) (o := .lst (us ++ zs)) ec (fun z => by cases z) em (fun z => by cases z) ⟨_, upd_same, hL.append hL2⟩
          exact ⟨p, q, us, zs, rfl, rfl, hH, hH2, by rw [hL.length, hL2.length]; exact hl, h _ m F _ s4 w4 .non⟩
        · exact h.elim
    · exact h.elim
  · exact h.elim
theorem ss_extO {i : Nat} (ha : SE K cls W ta fa) : SS K cls W (tDrop (tBM K "list" rExtend (tVar i) (tCons ta tNil))) (fExtO i fa) := fun B D m F g H env os σ rl h => by
  unfold fExtO at h
  split at h
  · rename_i ds e
    obtain ⟨l, xs, h1, h2, h3, h4⟩ := rl.r.sl i _ e
    refine ⟨_, h2, .inl ⟨rfl, xs, SqL.of h3⟩, ha m F g H env os σ _ rl.r (sat_e rl h fun d g1 v m1 F1 H1 s r1 q h5 => ?_)⟩
    cases ed : lstD g1 d with
    | none => simp only [ed] at h5; exact h5.elim
    | some ys =>
      simp only [ed] at h5
      split at h5
      · rename_i hl
        obtain ⟨l', xs', k1, k2, k3, k4⟩ := r1.r.sl i _ e
        rw [h1] at k1
        cases k1
        obtain ⟨p, zs, rfl, hH2, hL2⟩ := lst_rep r1.r.w q ed
        refine ⟨l, p, xs', zs, rfl, rfl, k3, hH2, by rw [k4.length, hL2.length]; exact hl, ?_⟩
        exact h5 m1 F1 _ os σ (Grow.refl _ _) ⟨r1.r.ownSet e h1 (k4.append hL2), r1.st.wr (r1.own i l h1), r1.own⟩
      · exact h5.elim
  · exact h.elim
/-- an own list becomes a cell -/
theorem Rl.pubOwn {i : Nat} {l : Addr} {xs : List V} {ds : List D} (r : Rl K cls m F g H env os σ) (hi : os i = some l) (hs : σ[i]? = some (some (.ref l))) (hH : H l = some (.lst xs)) (q : RepL K cls m F xs ds) :
    Rl K cls (m ++ [l]) F (g ++ [.lst ds]) H (env.set i (.val (.ref g.length))) (fun j => if j = i then none else os j) σ := by
  obtain ⟨hF, hL, h3, h4⟩ := r.own i l hi
  have gr : Grow m F (m ++ [l]) F := grow_push
  refine ⟨r.w.adopt (c := .lst ds) hF hL (fun z => by cases z) ⟨xs, hH, RepL.mono gr _ _ q⟩, fun j s e => ?_, by simpa using r.len, fun j k e => ?_, fun a b k e1 e2 => ?_⟩
  · by_cases hj : j = i
    · subst hj
      rw [List.getElem?_set_self h4] at e
      cases e
      exact ⟨if_pos rfl, _, hs, .ref (by rw [← r.w.len, List.getElem?_append_right (Nat.le_refl _), Nat.sub_self]; rfl)⟩
    · rw [List.getElem?_set_ne (Ne.symm hj)] at e
      have h := r.sl j s e
      cases s with
      | un => exact (if_neg hj).trans h
      | val d' =>
        obtain ⟨o', w, h1, h2⟩ := h
        exact ⟨(if_neg hj).trans o', w, h1, Rep.mono gr _ _ h2⟩
      | lst ds =>
        obtain ⟨k, ys, h1, h2, h5, h6⟩ := h
        exact ⟨k, ys, (if_neg hj).trans h1, h2, h5, RepL.mono gr _ _ h6⟩
      | dct ds =>
        obtain ⟨k, ys, h1, h2, h5, h6⟩ := h
        exact ⟨k, ys, (if_neg hj).trans h1, h2, h5, RepK.mono gr _ _ h6⟩
  · have e' : (if j = i then none else os j) = some k := e
    split at e'
    · cases e'
    · rename_i hj
      obtain ⟨h1, h2, h5, h6⟩ := r.own j k e'
      have ne : k ≠ l := fun z => hj (r.inj j i l (z ▸ e') hi)
      refine ⟨h1, fun z => ?_, h5, by simpa using h6⟩
      rcases liveAt_adopt r.w.len z with z | z
      · exact h2 z
      · exact ne z
  · have e1' : (if a = i then none else os a) = some k := e1
    have e2' : (if b = i then none else os b) = some k := e2
    split at e1'
    · cases e1'
    · split at e2'
      · cases e2'
      · exact r.inj a b k e1' e2'
theorem ss_pub {t : TS} {f : Env → G → SRes} {i : Nat} (h : SS K cls W t f) : SS K cls W t (fPub i f) := fun B D m F g H env os σ rl hs => by
  unfold fPub at hs
  split at hs
  · rename_i ds e
    obtain ⟨l, xs, h1, h2, h3, h4⟩ := rl.r.sl i _ e
    refine h B D (m ++ [l]) F (g ++ [.lst ds]) H _ _ σ ⟨rl.r.pubOwn h1 h2 h3 h4, rl.st.adopt rl.r.w.len (rl.own i l h1), fun j k e => ?_⟩ (SatS.mono hs grow_push)
    have e' : (if j = i then none else os j) = some k := e
    split at e'
    · cases e'
    · exact rl.own j k e'
  · exact h B D m F g H env os σ rl hs
end
section
variable {cls : Str → Addr} {X : Cx} {W : WX} {e o : Expr} {to te : TE} {fo fe : Env → G → Res D} {apos cpos pos : Pos} {sts : List Stmt} {t : TS} {f1 : Env → G → SRes}
theorem fe_index (ho : FE cls X W o to fo) (he : FE cls X W e te fe) (hb : attributeBase o "index" X.env (eval o X.env) = eval o X.env := by rfl) (hl : (apos.endLine == cpos.line) = true := by rfl) (hs : starEach [e] X.env = (false, eval e X.env) :: starEach [] X.env := by rfl) :
    FE cls X W (.Call (.Attribute o "index" apos) [e] [] cpos) (tBM X.K "list" (rIndex X.K) to (tCons te tNil)) (fLstM dIndex fo fe) :=
  ⟨pe_bm PySem.F.plainAttrs_list PySem.F.slot_list_index PySem.F.type_list_index mt_index ho.p (pa_cons he.p pa_nil hs) hb (by rw [hs]; rfl) hl hs, se_lstM (fun m F g H σ Q x y a b w ra rb h => op_index w ra rb h) ho.s he.s⟩
theorem fe_appC (ho : FE cls X W o to fo) (he : FE cls X W e te fe) (hb : attributeBase o "append" X.env (eval o X.env) = eval o X.env := by rfl) (hl : (apos.endLine == cpos.line) = true := by rfl) (hs : starEach [e] X.env = (false, eval e X.env) :: starEach [] X.env := by rfl) :
    FE cls X W (.Call (.Attribute o "append" apos) [e] [] cpos) (tBM X.K "list" rAppend to (tCons te tNil)) (fLstM dAppC fo fe) :=
  ⟨pe_bm PySem.F.plainAttrs_list PySem.F.slot_list_append PySem.F.type_list_append mt_append ho.p (pa_cons he.p pa_nil hs) hb (by rw [hs]; rfl) hl hs, se_lstM (fun m F g H σ Q x y a b w ra rb h => op_app w ra rb h) ho.s he.s⟩
theorem fe_extC (ho : FE cls X W o to fo) (he : FE cls X W e te fe) (hb : attributeBase o "extend" X.env (eval o X.env) = eval o X.env := by rfl) (hl : (apos.endLine == cpos.line) = true := by rfl) (hs : starEach [e] X.env = (false, eval e X.env) :: starEach [] X.env := by rfl) :
    FE cls X W (.Call (.Attribute o "extend" apos) [e] [] cpos) (tBM X.K "list" rExtend to (tCons te tNil)) (fLstM dExtC fo fe) :=
  ⟨pe_bm PySem.F.plainAttrs_list PySem.F.slot_list_extend PySem.F.type_list_extend mt_extend ho.p (pa_cons he.p pa_nil hs) hb (by rw [hs]; rfl) hl hs, se_lstM (fun m F g H σ Q x y a b w ra rb h => op_ext w ra rb h) ho.s he.s⟩
theorem fs_extO {x : Str} {pp : Pos} (i : Nat) (h : FE cls X W e te fe) (hN : X.N[i]? = some x := by rfl) (hv : Vis X.env.scope x := by first | exact Or.inl rfl | exact Or.inr (Or.inl rfl) | exact Or.inr (Or.inr rfl)) (hd : (x == ("__debug__" : Str)) = false := by decide)
    (hcd : (x == ("__classdict__" : Str)) = false := by decide) (hb : attributeBase (.Name x pp) "extend" X.env (eval (.Name x pp) X.env) = eval (.Name x pp) X.env := by rfl) (hl : (apos.endLine == cpos.line) = true := by rfl) (he : starEach [e] X.env = (false, eval e X.env) :: starEach [] X.env := by rfl) (hs : swapsWith (.Call (.Attribute (.Name x pp) "extend" apos) [e] [] cpos) none pos.line X.env = pure false := by rfl) :
    FS cls X W (.Expr (.Call (.Attribute (.Name x pp) "extend" apos) [e] [] cpos) pos) (tDrop (tBM X.K "list" rExtend (tVar i) (tCons te tNil))) (fExtO i fe) :=
  ⟨ps_expr (pe_bm PySem.F.plainAttrs_list PySem.F.slot_list_extend PySem.F.type_list_extend mt_extend (pe_var hN hv hd hcd) (pa_cons h.p pa_nil he) hb (by rw [he]; rfl) hl he rfl) hs, ss_extO h.s⟩
theorem fss_pub (i : Nat) (h : FSs cls X W sts t f1) : FSs cls X W sts t (fPub i f1) := ⟨h.p, ss_pub h.s⟩
theorem fe_lcC {elt tg iter : Expr} {ifs : List Expr} {scope : Scope} {own : List (Str × Nat)} {wi : TI} {fi : Env → G → Res (List D)} {g : Blk TG} {tt : Blk TT} {te : Blk TE} {ft : D → G → Env → Option Env} {fif : Env → G → Res Bool} {ix : List Nat} (hc : X.calm = true) (hN : X.N.Nodup) (hi : FI cls X W tg iter wi fi) (ok : BlkOk X.N X.env.scope scope own)
    (hg : ∀ (s : Shared) (H : Hp) (C : Addr) (cl : List (Str × Addr)) (fp : List Addr), FG cls (X.blk s H scope (compEnvC scope cl C X.env) fp) tg ix (g s H C cl fp) ft) (ht : ∀ (s : Shared) (H : Hp) (C : Addr) (cl : List (Str × Addr)) (fp : List Addr), FTs cls (X.blk s H scope (compEnvC scope cl C X.env) fp) W0 ifs (tt s H C cl fp) fif)
    (he : ∀ (s : Shared) (H : Hp) (C : Addr) (cl : List (Str × Addr)) (fp : List Addr), FE cls (X.blk s H scope (compEnvC scope cl C X.env) fp) W0 elt (te s H C cl fp) fe) (hx : ∀ j ∈ ix, j ∈ own.map (·.2)) (hs : ∀ x, foldedSetIterable iter X.env x = pure x := by intro _; rfl) :
    FE cls X W (.ListComp elt [⟨tg, iter, ifs, 0⟩] scope pos) (tLc wi (allG g) (allT tt) (allE te) (own.map (·.2))) (fLcC fi ft fif fe (own.map (·.2))) :=
  ⟨(fe_lc hc hN hi ok hg ht he hx hs).p,
    se_lcC hi.s (sall_g fun s H C cl fp => (hg s H C cl fp).s) (sall_t fun s H C cl fp => (ht s H C cl fp).s) (sall_e fun s H C cl fp => (he s H C cl fp).s) hx⟩
end
end FL

/-! FL27: calls without arguments; split, join, partition -/
namespace FL
open PySem PySem.Spec PyProof.Rows L2 FR
section
variable {X : Cx} {CX : CXT} {k : Nat} {f : Addr} {fd : FuncData} {ps : List Str} {sp : Sp} {E : L2.St → XK} {x : Str} {p pos : Pos}
theorem pe_callS0 (F : FnOk X.prog X.w X.K X.mg X.base CX k f fd ps sp) (hr : Room k X.A) (hg : Gl X x) (hm : X.mg x = some (.ref f)) (hk : PySem.W.keepIn X.K (.ref f) = true) (hb : Binds X.K fd ps []) (hx : ∀ σ, PassesAt CX X σ (E σ))
    (hdb : (x == ("__debug__" : Str)) = false := by decide) : PE X (.Call (.Name x p) [] [] pos) (tCallS sp E tNil) := by
  refine ⟨fun pins s σ H Q I h => ?_⟩
  exact wpAny_Call_Name_kw (ld_glob I hg hm (PySem.W.callWith_K0 I.kIn hk (run_fnS (us := []) F hr hb (hx σ) I .nil h)) hdb)
end
theorem fe_call0 {cls : Str → Addr} {X : Cx} {W : WX} {x : Str} {k p : Nat} {Fn : List D → G → Res D} {pp pos : Pos} (hf : GF X.prog X.w X.K X.mg X.base cls x k p Fn) (tk : Takes X W) (hr : Room k X.A)
    (hg : Gl X x := by rfl) (hdb : (x == ("__debug__" : Str)) = false := by decide) :
    FE cls X W (.Call (.Name x pp) [] [] pos) (tCallS (spF X.K cls p Fn) (fun σ => WE W σ) tNil) (fCall Fn fNilA) := by
  obtain ⟨f, fd, ps, F, hm, hk, hb⟩ := hf.ex
  refine ⟨pe_callS0 F hr hg hm hk hb (fun σ => passAt tk σ) hdb, fun m F0 g H env os σ Q rl h => ?_⟩
  have h1 : Sat X.K cls W σ (Rep X.K cls) ⟨m, F0, g, H⟩ (Fn [] g) Q := h
  refine ⟨?_, m, F0, g, [], rl.w, .nil, h1.wish fun cl dx H h => h⟩
  by_cases q : ([] : List D).length = p
  · exact q
  · rw [hf.st [] g q] at h1
    exact h1.elim
/-- the texts of a list -/
def strsD : List D → Option (List Str)
  | [] => some []
  | .str s :: ds => (strsD ds).map (s :: ·)
  | _ :: _ => none
def dSplit (a b : D) (g : G) : Res D := match a, b with
  | .str x, .str y => if (y.length == 0) = false ∧ x.length + 2 ≤ sizeLine then .ok (.lst ((Txt.split x y).map D.str)) g else .stuck
  | _, _ => .stuck
def dPartition (a b : D) (g : G) : Res D := match a, b with
  | .str x, .str y => if (y.length == 0) = false ∧ x.length ≤ sizeLine then .ok (.tup [.str (Txt.partition x y).1, .str (Txt.partition x y).2.1, .str (Txt.partition x y).2.2]) g else .stuck
  | _, _ => .stuck
def dJoin (a b : D) (g : G) : Res D := match a with
  | .str x => match seqD g b with
    | some ds => match strsD ds with
      | some ys => if (ys.map (·.length)).sum + ys.length * x.length ≤ 16777216 then .ok (.str (Txt.join x ys)) g else .stuck
      | none => .stuck
    | none => .stuck
  | _ => .stuck
/-- s.m(e) where s is a text -/
def fStrM (op : D → D → G → Res D) (fo fe : Env → G → Res D) : Env → G → Res D := fun env g => (fo env g).bind fun a g1 => match a with
  | .str _ => (fe env g1).bind fun x g2 => op a x g2
  | _ => .stuck
section
variable {K : PySem.W.Frag} {cls : Str → Addr} {W : WX} {m : List Addr} {F H : Hp} {g : G} {σ : L2.St} {to te : TE} {fo fe : Env → G → Res D}
theorem strs_rep : ∀ {ds : List D} {ys : List Str}, strsD ds = some ys → ds = ys.map D.str
  | [], _, h => by cases h; rfl
  | d :: ds, ys, h => by
    cases d <;> first | cases h | skip
    rename_i s
    have h2 : (strsD ds).map (s :: ·) = some ys := h
    obtain ⟨zs, h3, rfl⟩ := Option.map_eq_some_iff.mp h2
    rw [strs_rep h3]; rfl
theorem repL_strs : ∀ {ys : List Str} {xs : List V}, RepL K cls m F xs (ys.map D.str) → xs = ys.map V.str
  | [], _, h => by cases h; rfl
  | y :: ys, _, h => by
    cases h with
    | cons a b => cases a; rw [repL_strs b]; rfl
theorem rep_strs : ∀ ys : List Str, RepL K cls m F (ys.map V.str) (ys.map D.str)
  | [] => .nil
  | y :: ys => .cons (.str y) (rep_strs ys)
theorem se_strM {r : V → List V → Hp → VK → Prop} {op : D → D → G → Res D} (hop : ∀ m F g H σ (Q : VK) x y a b, World K cls m F g H → Rep K cls m F x a → Rep K cls m F y b → Sat K cls W σ (Rep K cls) ⟨m, F, g, H⟩ (op a b g) Q → r x [y] H Q) (ho : SE K cls W to fo) (he : SE K cls W te fe) :
    SE K cls W (tM1 r to te) (fStrM op fo fe) := fun m F g H env os σ Q rl h =>
  ho m F g H env os σ _ rl (h.bind fun a g1 x m1 F1 H1 s1 w1 r1 h1 => by
    cases a <;> first | exact h1.elim | skip
    rename_i z
    cases r1
    refine ⟨⟨z, rfl⟩, he m1 F1 g1 H1 env os σ _ (rl.step s1 w1) (h1.bind fun b g2 y m2 F2 H2 s2 w2 r2 h2 => ?_)⟩
    exact hop m2 F2 g2 H2 σ Q _ y (.str z) b w2 (.str z) r2 h2)
end
section
variable {cls : Str → Addr} {X : Cx} {W : WX} {e o : Expr} {to te : TE} {fo fe : Env → G → Res D} {apos pos : Pos}
theorem fe_split (ho : FE cls X W o to fo) (he : FE cls X W e te fe) (hs : starEach [e] X.env = [(false, eval e X.env)] := by rfl) (hb : attributeBase o "split" X.env (eval o X.env) = eval o X.env := by rfl) (hl : (apos.endLine == pos.line) = true := by rfl) :
    FE cls X W (.Call (.Attribute o "split" apos) [e] [] pos) (tM1 (fun x xs H Q => ∃ a b, x = .str a ∧ xs = [.str b] ∧ (b.length == 0) = false ∧ a.length + 2 ≤ sizeLine ∧ rNewStrs (Txt.split a b) H Q) to te) (fStrM dSplit fo fe) :=
  ⟨pe_split ho.p he.p hs hb hl, se_strM (fun m F g H σ Q x y a b w ra rb h => by
    unfold dSplit at h
    split at h
    · split at h
      · rename_i hl
        cases ra; cases rb
        exact ⟨_, _, rfl, rfl, hl.1, hl.2, fun p hp => h.new w hp (.lst upd_same (RepL.mono (grow_new (w.hF hp)) _ _ (rep_strs _)))⟩
      · exact h.elim
    · exact h.elim) ho.s he.s⟩
theorem fe_partition (ho : FE cls X W o to fo) (he : FE cls X W e te fe) (hs : starEach [e] X.env = [(false, eval e X.env)] := by rfl) (hb : attributeBase o "partition" X.env (eval o X.env) = eval o X.env := by rfl) (hl : (apos.endLine == pos.line) = true := by rfl) :
    FE cls X W (.Call (.Attribute o "partition" apos) [e] [] pos) (tM1 (fun x xs H Q => ∃ a b, x = .str a ∧ xs = [.str b] ∧ (b.length == 0) = false ∧ a.length ≤ sizeLine ∧
      ∀ p, H p = none → Q (.ref p) (upd H p (.tup [.str (Txt.partition a b).1, .str (Txt.partition a b).2.1, .str (Txt.partition a b).2.2]))) to te) (fStrM dPartition fo fe) :=
  ⟨pe_partition ho.p he.p hs hb hl, se_strM (fun m F g H σ Q x y a b w ra rb h => by
    unfold dPartition at h
    split at h
    · split at h
      · rename_i hl
        cases ra; cases rb
        exact ⟨_, _, rfl, rfl, hl.1, hl.2, fun p hp => h.new w hp (.tup sqT_new (.cons (.str _) (.cons (.str _) (.cons (.str _) .nil))))⟩
      · exact h.elim
    · exact h.elim) ho.s he.s⟩
theorem fe_join (ho : FE cls X W o to fo) (he : FE cls X W e te fe) (hs : starEach [e] X.env = [(false, eval e X.env)] := by rfl) (hb : attributeBase o "join" X.env (eval o X.env) = eval o X.env := by rfl) (hl : (apos.endLine == pos.line) = true := by rfl) :
    FE cls X W (.Call (.Attribute o "join" apos) [e] [] pos) (tM1 (fun x xs H Q => ∃ a p, ∃ ys : List Str, x = .str a ∧ xs = [.ref p] ∧ (SqL X.K H p (ys.map V.str) ∨ SqT X.K H p (ys.map V.str)) ∧
      (ys.map (·.length)).sum + ys.length * a.length ≤ 16777216 ∧ Q (.str (Txt.join a ys)) H) to te) (fStrM dJoin fo fe) :=
  ⟨pe_join ho.p he.p hs hb hl, se_strM (fun m F g H σ Q x y a b w ra rb h => by
    unfold dJoin at h
    cases a <;> first | exact h.elim | skip
    rename_i z
    cases ra
    cases e1 : seqD g b with
    | none => simp only [e1] at h; exact h.elim
    | some ds =>
      simp only [e1] at h
      cases e2 : strsD ds with
      | none => simp only [e2] at h; exact h.elim
      | some ys =>
        simp only [e2] at h
        split at h
        · rename_i hl
          obtain ⟨p, us, rfl, hq, rl⟩ := seq_rep w rb e1
          rw [strs_rep e2] at rl
          have := repL_strs rl
          subst this
          exact ⟨z, p, ys, rfl, rfl, hq, hl, h.here w (.str _)⟩
        · exact h.elim) ho.s he.s⟩
end
end FL

namespace FL
open PySem PySem.Spec PyProof.Rows L2 FR
def K_KINDS : D := .tup [.str "get", .str "walk", .str "put", .str "strike"]
def b_LockBook___eq__ : Env → G → SRes :=
  (fRet (fAndV (f1 (dIsC [("LockBook", true)]) (fVar 1)) (f2 (dEq false) (f1 (dFld ["LockBook"] "own_numbers") (fVar 0)) (f1 (dFld ["LockBook"] "own_numbers") (fVar 1)))))
def F_LockBook___eq__ : List D → G → Res D := bodyF 2 2 b_LockBook___eq__
def b_LockBook_numbers : Env → G → SRes :=
  (fSeq (fAsg (fLcN (fSeqI (fTup (fConsA (f1 (dFld ["LockBook"] "own_keys") (fVar 0)) (fConsA (f1 (dFld ["LockBook"] "own_gaps") (fVar 0)) (fConsA (f1 (dFld ["LockBook"] "own_splits") (fVar 0)) fNilA))))) (gSet 2) fYes (clF (fSeqI (fVar 2)) (gSet 3) fYes [3, 4] (clF (fSeqI (fVar 3)) (gSet 4) fYes [4] (eltF (fVar 4)))) [2, 3, 4]) (gSet 1)) (fRet (f2 dAdd (fVar 1) (fLcN (fSeqI (fC K_KINDS)) (gSet 5) fYes (clF (fSeqI (f2 dIx (f1 (dFld ["LockBook"] "own_wants") (fVar 0)) (fVar 5))) (gSet 6) fYes [6, 7] (clF (fSeqI (fVar 6)) (gSet 7) fYes [7] (eltF (fVar 7)))) [5, 6, 7]))))
def F_LockBook_numbers : List D → G → Res D := bodyF 1 8 b_LockBook_numbers
def b_LockBook_size : Env → G → SRes :=
  (fRet (fTup (fConsA (fCall dLen (fConsA (f1 (dFld ["LockBook"] "own_keys") (fVar 0)) fNilA)) (fConsA (fCall dLen (fConsA (f1 (dFld ["LockBook"] "own_gaps") (fVar 0)) fNilA)) fNilA))))
def F_LockBook_size : List D → G → Res D := bodyF 1 1 b_LockBook_size
def b_LockBook_below : Env → G → SRes :=
  (fSeq (fIfS (fTest (f2 (dEq true) (f1 (dProp "LockBook" F_LockBook_size) (fVar 0)) (f1 (dProp "LockBook" F_LockBook_size) (fVar 1)))) (fRet (fC (.bl false))) fNext) (fRet (fCall dAll (fConsA (fLc (fZip (fConsA (fMeth "LockBook" "numbers" (dDf F_LockBook_numbers []) (fVar 0) fNilA) (fConsA (fMeth "LockBook" "numbers" (dDf F_LockBook_numbers []) (fVar 1) fNilA) fNilA))) (gTupF (gConss (gSet 2) (gConss (gSet 3) gNils)) 2) fYes (f2 dLe (fVar 2) (fVar 3)) [2, 3]) fNilA))))
def F_LockBook_below : List D → G → Res D := bodyF 2 4 b_LockBook_below
def b__law_bag : Env → G → SRes :=
  (fRet (fCellL (fConsA (fCall dListC (fConsA (fSlice (fVar 0) fNoPart (fPart (fC (.int 63)))) fNilA)) (fConsA (fC (.int 0)) (fConsA (fC (.int 0)) (fConsA (fC (.int 5763)) (fConsA (fC (.int 0)) fNilA)))))))
def F__law_bag : List D → G → Res D := bodyF 1 1 b__law_bag
def b_is_number : Env → G → SRes :=
  (fRet (fAndV (f1 (dIsi ["int"]) (fVar 0)) (fNotV (f1 (dIsi ["bool"]) (fVar 0)))))
def F_is_number : List D → G → Res D := bodyF 1 1 b_is_number
def b_is_below : Env → G → SRes :=
  (fRet (fAndV (fCall F_is_number (fConsA (fVar 0) fNilA)) (fChain dLe dLt (fC (.int 0)) (fVar 0) (fVar 1))))
def F_is_below : List D → G → Res D := bodyF 2 2 b_is_below
def b_is_pair : Env → G → SRes :=
  (fRet (fAndV (f1 (dIsi ["tuple"]) (fVar 0)) (fAndV (f2 (dEq false) (fCall dLen (fConsA (fVar 0) fNilA)) (fC (.int 2))) (fAndV (fCall F_is_below (fConsA (f2 dIx (fVar 0) (fC (.int 0))) (fConsA (fVar 1) fNilA))) (fCall F_is_below (fConsA (f2 dIx (fVar 0) (fC (.int 1))) (fConsA (fVar 2) fNilA)))))))
def F_is_pair : List D → G → Res D := bodyF 3 3 b_is_pair
def b_limit_at : Env → G → SRes :=
  (fRet (f2 dIx (fVar 0) (f2 dMod (fVar 1) (fC (.int 2)))))
def F_limit_at : List D → G → Res D := bodyF 2 2 b_limit_at
def b_are_wants : Env → G → SRes :=
  (fSeq (fIfS (fOrT (fNotT (fTest (f1 (dIsi ["list", "tuple"]) (fVar 0)))) (fTest (f2 (dEq true) (fCall dLen (fConsA (fVar 0) fNilA)) (fC (.int 4))))) (fRet (fC (.bl false))) fNext) (fRet (fCall dAll (fConsA (fLc (fEnum (fConsA (fVar 0) fNilA)) (gTupF (gConss (gSet 2) (gConss (gSet 3) gNils)) 2) fYes (fCall F_is_pair (fConsA (fVar 3) (fConsA (fCall F_limit_at (fConsA (fVar 1) (fConsA (fVar 2) fNilA))) (fConsA (fC (.int 2)) fNilA)))) [2, 3]) fNilA))))
def F_are_wants : List D → G → Res D := bodyF 2 4 b_are_wants
def b_fall_of_splits : Env → G → SRes :=
  (fSeq (fFor (fEnum (fConsA (fVar 0) fNilA)) (gTupF (gConss (gSet 1) (gConss (gSet 2) gNils)) 2) (fFor (fEnum (fConsA (fVar 2) fNilA)) (gTupF (gConss (gSet 3) (gConss (gSet 4) gNils)) 2) (fIfS (fOrT (fAndT (fTest (f2 (dEq false) (fVar 1) (fC (.int 0)))) (fTest (f2 (dEq true) (fVar 4) (fC (.int 0))))) (fAndT (fTest (f2 dGt (fVar 1) (fC (.int 0)))) (fTest (f2 dLt (fVar 4) (f2 dIx (f2 dIx (fVar 0) (f2 dSub (fVar 1) (fC (.int 1)))) (fVar 3)))))) (fRet (fTup (fConsA (fVar 1) (fConsA (fVar 3) fNilA)))) fNext))) (fRet (fC .non)))
def F_fall_of_splits : List D → G → Res D := bodyF 1 5 b_fall_of_splits
def b_need_splits : Env → G → SRes :=
  (fSeq (fIfS (fOrT (fNotT (fTest (f1 (dIsi ["list", "tuple"]) (fVar 0)))) (fTest (f2 (dEq true) (fCall dLen (fConsA (fVar 0) fNilA)) (fVar 1)))) (fun _ _ => .stuck) fNext) (fSeq (fIfS (fNotT (fTest (fCall dAll (fConsA (fLc (fSeqI (fVar 0)) (gSet 3) fYes (fCall F_is_pair (fConsA (fVar 3) (fConsA (fVar 1) (fConsA (fVar 1) fNilA)))) [3]) fNilA)))) (fun _ _ => .stuck) fNext) (fSeq (fAsg (fCall F_fall_of_splits (fConsA (fVar 0) fNilA)) (gSet 2)) (fIfS (fTest (f1 (dIsN true) (fVar 2))) (fun _ _ => .stuck) fNext))))
def F_need_splits : List D → G → Res D := bodyF 2 4 b_need_splits
def b_fall_of_table : Env → G → SRes :=
  (fSeq (fFor (fEnum (fConsA (fVar 0) fNilA)) (gTupF (gConss (gSet 1) (gConss (gSet 2) gNils)) 2) (fFor (fEnum (fConsA (fVar 2) fNilA)) (gTupF (gConss (gSet 3) (gConss (gSet 4) gNils)) 2) (fSeq (fIfS (fAndT (fOrT (fTest (f2 (dEq false) (fVar 1) (fC (.int 0)))) (fTest (f2 (dEq false) (fVar 3) (fC (.int 0))))) (fTest (f2 (dEq true) (fVar 4) (fC (.int 0))))) (fRet (fTup (fConsA (fVar 1) (fConsA (fVar 3) fNilA)))) fNext) (fIfS (fOrT (fAndT (fTest (f2 dGt (fVar 1) (fC (.int 0)))) (fTest (f2 dLt (fVar 4) (f2 dIx (f2 dIx (fVar 0) (f2 dSub (fVar 1) (fC (.int 1)))) (fVar 3))))) (fAndT (fTest (f2 dGt (fVar 3) (fC (.int 0)))) (fTest (f2 dLt (fVar 4) (f2 dIx (fVar 2) (f2 dSub (fVar 3) (fC (.int 1)))))))) (fRet (fTup (fConsA (fVar 1) (fConsA (fVar 3) fNilA)))) fNext)))) (fRet (fC .non)))
def F_fall_of_table : List D → G → Res D := bodyF 1 5 b_fall_of_table
def b_is_table : Env → G → SRes :=
  (fSeq (fIfS (fOrT (fNotT (fTest (f1 (dIsi ["list", "tuple"]) (fVar 0)))) (fNotT (fTest (fChain dLe dLe (fC (.int 1)) (fCall dLen (fConsA (fVar 0) fNilA)) (fC (.int 5)))))) (fRet (fC (.bl false))) fNext) (fSeq (fFor (fSeqI (fVar 0)) (gSet 1) (fSeq (fIfS (fOrT (fNotT (fTest (f1 (dIsi ["list", "tuple"]) (fVar 1)))) (fTest (f2 (dEq true) (fCall dLen (fConsA (fVar 1) fNilA)) (fCall dLen (fConsA (fVar 0) fNilA))))) (fRet (fC (.bl false))) fNext) (fIfS (fNotT (fTest (fCall dAll (fConsA (fLc (fSeqI (fVar 1)) (gSet 2) fYes (fCall F_is_below (fConsA (fVar 2) (fConsA (fC (.int 2)) fNilA))) [2]) fNilA)))) (fRet (fC (.bl false))) fNext))) (fRet (fC (.bl true)))))
def F_is_table : List D → G → Res D := bodyF 1 3 b_is_table
def b_need_table : Env → G → SRes :=
  (fSeq (fIfS (fNotT (fTest (fCall F_is_table (fConsA (fVar 1) fNilA)))) (fun _ _ => .stuck) fNext) (fSeq (fAsg (fCall F_fall_of_table (fConsA (fVar 1) fNilA)) (gSet 2)) (fIfS (fTest (f1 (dIsN true) (fVar 2))) (fun _ _ => .stuck) fNext)))
def F_need_table : List D → G → Res D := bodyF 2 3 b_need_table
def b_LockBook___init__ : Env → G → SRes :=
  (fSeq (fExpr (fCall F_need_table (fConsA (fC (.str "keys")) (fConsA (fVar 1) fNilA)))) (fSeq (fExpr (fCall F_need_table (fConsA (fC (.str "gaps")) (fConsA (fVar 2) fNilA)))) (fSeq (fExpr (fCall F_need_splits (fConsA (fVar 3) (fConsA (fCall dLen (fConsA (fVar 2) fNilA)) fNilA)))) (fSeq (fAsg (fDisp [((fC (.str "get")), (fVar 4)), ((fC (.str "walk")), (fVar 5)), ((fC (.str "put")), (fVar 6)), ((fC (.str "strike")), (fVar 7))]) (gSet 8)) (fSeq (fFor (fSeqI (fC K_KINDS)) (gSet 9) (fIfS (fNotT (fTest (fCall F_are_wants (fConsA (f2 dIx (fVar 8) (fVar 9)) (fConsA (fTup (fConsA (fCall dLen (fConsA (fVar 1) fNilA)) (fConsA (fCall dLen (fConsA (fVar 2) fNilA)) fNilA))) fNilA))))) (fun _ _ => .stuck) fNext)) (fSeq (fSetF ["LockBook"] "own_keys" (fCall dTupC (fConsA (fLc (fSeqI (fVar 1)) (gSet 10) fYes (fCall dTupC (fConsA (fVar 10) fNilA)) [10]) fNilA)) (fVar 0)) (fSeq (fSetF ["LockBook"] "own_gaps" (fCall dTupC (fConsA (fLc (fSeqI (fVar 2)) (gSet 10) fYes (fCall dTupC (fConsA (fVar 10) fNilA)) [10]) fNilA)) (fVar 0)) (fSeq (fSetF ["LockBook"] "own_splits" (fCall dTupC (fConsA (fVar 3) fNilA)) (fVar 0)) (fSeq (fSetF ["LockBook"] "own_wants" (fDc (fSeqI (fC K_KINDS)) (gSet 9) fYes (fVar 9) (fCall dTupC (fConsA (f2 dIx (fVar 8) (fVar 9)) fNilA)) [9]) (fVar 0)) (fSetF ["LockBook"] "own_numbers" (fLst (fConsA (fCall dLen (fConsA (fVar 1) fNilA)) (fConsA (fCall dLen (fConsA (fVar 2) fNilA)) (fStarA (fMeth "LockBook" "numbers" (dDf F_LockBook_numbers []) (fVar 0) fNilA) fNilA)))) (fVar 0)))))))))))
def F_LockBook___init__ : List D → G → Res D := bodyF 8 11 b_LockBook___init__
def b__law_made : Env → G → SRes :=
  (fRet (f1 frzD (fMakeK "LockBook" 3 4 F_LockBook___init__ (fConsA (f2 dIx (fVar 0) (fC (.int 0))) (fConsA (f2 dIx (fVar 0) (fC (.int 1))) (fConsA (f2 dIx (fVar 0) (fC (.int 2))) fNilA))) (fConsA (f2 dIx (fVar 0) (fC (.int 3))) (fConsA (f2 dIx (fVar 0) (fC (.int 4))) (fConsA (f2 dIx (fVar 0) (fC (.int 5))) (fConsA (f2 dIx (fVar 0) (fC (.int 6))) fNilA)))))))
def F__law_made : List D → G → Res D := bodyF 1 1 b__law_made
def b__law_pull : Env → G → SRes :=
  (fSeq (fStore (f2 dAdd (f2 dIx (fVar 0) (fC (.int 4))) (fC (.int 1))) (fVar 0) (fC (.int 4))) (fSeq (fIfS (fAndT (fTest (f2 (dEq false) (f2 dIx (fVar 0) (fC (.int 2))) (fC (.int 0)))) (fTest (f2 dLt (f2 dIx (fVar 0) (fC (.int 1))) (fCall dLen (fConsA (f2 dIx (fVar 0) (fC (.int 0))) fNilA))))) (fSeq (fAsg (f2 dIx (f2 dIx (fVar 0) (fC (.int 0))) (f2 dIx (fVar 0) (fC (.int 1)))) (gSet 2)) (fSeq (fStore (f2 dAdd (f2 dIx (fVar 0) (fC (.int 1))) (fC (.int 1))) (fVar 0) (fC (.int 1))) (fIfS (fTest (f2 dGe (fCall dAbs (fConsA (fVar 2) fNilA)) (f2 dPow (fC (.int 10)) (fC (.int 18))))) (fStore (fCall dAbs (fConsA (fVar 2) fNilA)) (fVar 0) (fC (.int 2))) (fSeq (fAsg (f2 dAdd (f2 dMul (f2 dMod (fCall dIntC (fConsA (fVar 2) fNilA)) (fC (.int 1000000007))) (fC (.int 27751))) (fC (.int 43))) (gSet 3)) (fStore (f2 dMod (fCall dIntC (fConsA (f2 dAdd (f2 dMul (f2 dIx (fVar 0) (fC (.int 3))) (fC (.int 38737))) (fVar 3)) fNilA)) (fC (.int 2147483629))) (fVar 0) (fC (.int 3))))))) fNext) (fSeq (fIfS (fTest (f2 dGt (f2 dIx (fVar 0) (fC (.int 2))) (fC (.int 0)))) (fSeq (fAsg (f2 dMod (fCall dIntC (fConsA (f2 dIx (fVar 0) (fC (.int 2))) fNilA)) (fVar 1)) (gSet 4)) (fSeq (fStore (f2 dDiv (f2 dIx (fVar 0) (fC (.int 2))) (fVar 1)) (fVar 0) (fC (.int 2))) (fRet (fVar 4)))) fNext) (fSeq (fAsg (f2 dIx (fVar 0) (fC (.int 3))) (gSet 5)) (fSeq (fAsg (f2 dAdd (f2 dAdd (f2 dMul (fVar 5) (fC (.int 52361))) (f2 dMul (f2 dIx (fVar 0) (fC (.int 4))) (fC (.int 104729)))) (fC (.int 90001))) (gSet 6)) (fSeq (fStore (f2 dMod (fCall dIntC (fConsA (f2 dAdd (f2 dMul (f2 dMul (fVar 5) (fVar 5)) (fC (.int 13))) (fVar 6)) fNilA)) (fC (.int 2147483629))) (fVar 0) (fC (.int 3))) (fRet (f2 dMod (fCall dIntC (fConsA (f2 dAdd (f2 dDiv (f2 dIx (fVar 0) (fC (.int 3))) (fC (.int 89))) (f2 dMul (f2 dMod (fCall dIntC (fConsA (f2 dIx (fVar 0) (fC (.int 3))) fNilA)) (fC (.int 7927))) (fC (.int 71)))) fNilA)) (fVar 1)))))))))
def F__law_pull : List D → G → Res D := bodyF 2 7 b__law_pull
def b__law_same (Self : List D → G → Res D) : Env → G → SRes :=
  (fSeq (fIfS (fOrT (fTest (f1 (dIsN false) (fVar 1))) (fTest (f1 (dIsN false) (fVar 0)))) (fRet (fAndV (f1 (dIsN false) (fVar 1)) (f1 (dIsN false) (fVar 0)))) fNext) (fSeq (fIfS (fOrT (fTest (f1 (dIsi ["bool"]) (fVar 1))) (fTest (f1 (dIsi ["bool"]) (fVar 0)))) (fRet (fAndV (f1 (dIsi ["bool"]) (fVar 1)) (fAndV (f1 (dIsi ["bool"]) (fVar 0)) (f2 (dEq false) (fVar 0) (fVar 1))))) fNext) (fSeq (fIfS (fOrT (fTest (f1 (dIsi ["list", "tuple"]) (fVar 1))) (fTest (f1 (dIsi ["list", "tuple"]) (fVar 0)))) (fSeq (fIfS (fTest (f2 (dEq true) (f1 (dIsi ["list"]) (fVar 1)) (f1 (dIsi ["list"]) (fVar 0)))) (fRet (fC (.bl false))) fNext) (fSeq (fIfS (fOrT (fTest (f2 (dEq true) (f1 (dIsi ["tuple"]) (fVar 1)) (f1 (dIsi ["tuple"]) (fVar 0)))) (fTest (f2 (dEq true) (fCall dLen (fConsA (fVar 0) fNilA)) (fCall dLen (fConsA (fVar 1) fNilA))))) (fRet (fC (.bl false))) fNext) (fRet (fCall dAll (fConsA (fLc (fZip (fConsA (fVar 0) (fConsA (fVar 1) fNilA))) (gTupF (gConss (gSet 2) (gConss (gSet 3) gNils)) 2) fYes (fCall Self (fConsA (fVar 2) (fConsA (fVar 3) fNilA))) [2, 3]) fNilA))))) fNext) (fSeq (fIfS (fTest (f2 (dEq true) (f1 (dIsi ["int"]) (fVar 1)) (f1 (dIsi ["int"]) (fVar 0)))) (fRet (fC (.bl false))) fNext) (fRet (fAndV (f2 (dEq false) (f1 (dIsi ["str"]) (fVar 1)) (f1 (dIsi ["str"]) (fVar 0))) (f2 (dEq false) (fVar 0) (fVar 1))))))))
def R__law_same : Nat → List D → G → Res D
  | 0 => fun _ _ => .stuck
  | n + 1 => bodyF 2 4 (b__law_same (R__law_same n))
def F__law_same : List D → G → Res D := R__law_same 12
def b__law_splits : Env → G → SRes :=
  (fSeq (fSetL (fConsA (fTup (fConsA (fC (.int 0)) (fConsA (fC (.int 0)) fNilA))) fNilA) 2) (fSeq (fFor (fRange2 (fConsA (fC (.int 1)) (fConsA (fVar 1) fNilA))) (gSet 3) (fSeq (fAsg (fIxO 2 (f2 dSub (fVar 3) (fC (.int 1)))) (gTupF (gConss (gSet 4) (gConss (gSet 5) gNils)) 2)) (fSeq (fAsg (fCall F__law_pull (fConsA (fVar 0) (fConsA (fC (.int 4)) fNilA))) (gSet 6)) (fSeq (fIfS (fTest (f2 (dEq false) (fVar 6) (fC (.int 0)))) (fPar 4 5 (fConsA (fCall dMax2 (fConsA (fVar 4) (fConsA (fVar 3) fNilA))) (fConsA (fCall dMax2 (fConsA (fVar 5) (fConsA (fVar 3) fNilA))) fNilA))) fNext) (fSeq (fIfS (fTest (f2 (dEq false) (fVar 6) (fC (.int 1)))) (fAsg (fCall dMax2 (fConsA (fVar 4) (fConsA (fVar 3) fNilA))) (gSet 4)) fNext) (fSeq (fIfS (fTest (f2 (dEq false) (fVar 6) (fC (.int 2)))) (fAsg (fCall dMax2 (fConsA (fVar 5) (fConsA (fVar 3) fNilA))) (gSet 5)) fNext) (fSeq (fIfS (fTest (f2 (dEq false) (fVar 6) (fC (.int 3)))) (fPar 4 5 (fConsA (f2 dAdd (fVar 4) (fCall F__law_pull (fConsA (fVar 0) (fConsA (f2 dSub (fVar 1) (fVar 4)) fNilA)))) (fConsA (f2 dAdd (fVar 5) (fCall F__law_pull (fConsA (fVar 0) (fConsA (f2 dSub (fVar 1) (fVar 5)) fNilA)))) fNilA))) fNext) (fAppO 2 (fTup (fConsA (fVar 4) (fConsA (fVar 5) fNilA))))))))))) (fFrz 2 (fRet (fVar 2)))))
def F__law_splits : List D → G → Res D := bodyF 2 7 b__law_splits
def b__law_want : Env → G → SRes :=
  (fRet (fTup (fConsA (fCall F__law_pull (fConsA (fVar 0) (fConsA (fVar 1) fNilA))) (fConsA (f2 dSub (fC (.int 1)) (fCall dIntC (fConsA (f2 (dEq false) (fCall F__law_pull (fConsA (fVar 0) (fConsA (fC (.int 3)) fNilA))) (fC (.int 0))) fNilA))) fNilA))))
def F__law_want : List D → G → Res D := bodyF 2 2 b__law_want
end FL

namespace FL
open PySem PySem.Spec PyProof.Rows L2 FR
def b__law_table : Env → G → SRes :=
  (fSeq (fSetL fNilA 2) (fSeq (fFor (fRange1 (fConsA (fVar 1) fNilA)) (gSet 3) (fSeq (fSetL fNilA 4) (fSeq (fFor (fRange1 (fConsA (fVar 1) fNilA)) (gSet 5) (fSeq (fAsg (fC (.int 0)) (gSet 6)) (fSeq (fIfS (fAndT (fTest (f2 dGt (fVar 3) (fC (.int 0)))) (fTest (f2 dGt (fVar 5) (fC (.int 0))))) (fAsg (fCall dMax2 (fConsA (f2 dIx (fIxO 2 (f2 dSub (fVar 3) (fC (.int 1)))) (fVar 5)) (fConsA (fIxO 4 (f2 dSub (fVar 5) (fC (.int 1)))) fNilA))) (gSet 6)) fNext) (fSeq (fAsg (fIf (fAndT (fTest (f2 dGt (fVar 3) (fC (.int 0)))) (fAndT (fTest (f2 dGt (fVar 5) (fC (.int 0)))) (fTest (f2 (dEq false) (fCall F__law_pull (fConsA (fVar 0) (fConsA (fC (.int 3)) fNilA))) (fC (.int 0)))))) (fC (.int 1)) (fC (.int 0))) (gSet 7)) (fAppO 4 (fCall dMax2 (fConsA (fVar 6) (fConsA (fVar 7) fNilA)))))))) (fFrz 4 (fAppO 2 (fVar 4)))))) (fFrz 2 (fRet (fVar 2)))))
def F__law_table : List D → G → Res D := bodyF 2 8 b__law_table
def b__law_parts : Env → G → SRes :=
  (fSeq (fAsg (fTup (fConsA (f2 dAdd (fC (.int 1)) (fCall F__law_pull (fConsA (fVar 0) (fConsA (fVar 1) fNilA)))) (fConsA (f2 dAdd (fC (.int 1)) (fCall F__law_pull (fConsA (fVar 0) (fConsA (fVar 1) fNilA)))) fNilA))) (gTupF (gConss (gSet 2) (gConss (gSet 3) gNils)) 2)) (fSeq (fAsg (fLc (fRange1 (fConsA (fC (.int 4)) fNilA)) (gSet 5) fYes (fLc (fRange1 (fConsA (fC (.int 4)) fNilA)) (gSet 6) fYes (fCall F__law_want (fConsA (fVar 0) (fConsA (f2 dIx (fLst (fConsA (fVar 2) (fConsA (fVar 3) fNilA))) (f2 dMod (fVar 6) (fC (.int 2)))) fNilA))) [6]) [5]) (gSet 4)) (fRet (f2 dAdd (fLst (fConsA (fCall F__law_table (fConsA (fVar 0) (fConsA (fVar 2) fNilA))) (fConsA (fCall F__law_table (fConsA (fVar 0) (fConsA (fVar 3) fNilA))) (fConsA (fCall F__law_splits (fConsA (fVar 0) (fConsA (fVar 3) fNilA))) fNilA)))) (fVar 4)))))
def F__law_parts : List D → G → Res D := bodyF 2 7 b__law_parts
end FL

namespace FL
open PySem PySem.Spec PyProof.Rows L2 FR
def b__law_kinds : Env → G → SRes :=
  (fRet (fLst (fConsA (fC (.str "get")) (fConsA (fC (.str "walk")) (fConsA (fC (.str "put")) (fConsA (fC (.str "strike")) fNilA))))))
def F__law_kinds : List D → G → Res D := bodyF 0 0 b__law_kinds
def b__law_wish : Env → G → SRes :=
  (fRet (f2 dIx (f2 dIx (f2 dIx (fVar 0) (f2 dAdd (fC (.int 3)) (fLstM dIndex (fCall F__law_kinds fNilA) (fVar 1)))) (fVar 2)) (fC (.int 0))))
def F__law_wish : List D → G → Res D := bodyF 3 3 b__law_wish
def b__law_free : Env → G → SRes :=
  (fRet (fAndV (f2 (dEq false) (f2 dIx (f2 dIx (f2 dIx (fVar 0) (fC (.int 0))) (fVar 4)) (fCall F__law_wish (fConsA (fVar 0) (fConsA (fVar 1) (fConsA (fVar 2) fNilA))))) (fC (.int 0))) (f2 (dEq false) (f2 dIx (f2 dIx (f2 dIx (fVar 0) (fC (.int 1))) (fVar 3)) (fCall F__law_wish (fConsA (fVar 0) (fConsA (fVar 1) (fConsA (f2 dAdd (fVar 2) (fC (.int 1))) fNilA))))) (fC (.int 0)))))
def F__law_free : List D → G → Res D := bodyF 5 5 b__law_free
def b_LockBook_bars_gap : Env → G → SRes :=
  (fRet (f2 (dEq false) (f2 dIx (f2 dIx (f1 (dFld ["LockBook"] "own_gaps") (fVar 0)) (fVar 1)) (fVar 2)) (fC (.int 1))))
def F_LockBook_bars_gap : List D → G → Res D := bodyF 3 3 b_LockBook_bars_gap
def b_LockBook_bars_key : Env → G → SRes :=
  (fRet (f2 (dEq false) (f2 dIx (f2 dIx (f1 (dFld ["LockBook"] "own_keys") (fVar 0)) (fVar 1)) (fVar 2)) (fC (.int 1))))
def F_LockBook_bars_key : List D → G → Res D := bodyF 3 3 b_LockBook_bars_key
def b_LockBook_wants : Env → G → SRes :=
  (fSeq (fIfS (fTest (f2 (dIn true) (fVar 1) (fC K_KINDS))) (fun _ _ => .stuck) fNext) (fRet (f2 dIx (f1 (dFld ["LockBook"] "own_wants") (fVar 0)) (fVar 1))))
def F_LockBook_wants : List D → G → Res D := bodyF 2 2 b_LockBook_wants
def b_LockBook_wanted : Env → G → SRes :=
  (fRet (f2 dIx (f2 dIx (fMeth "LockBook" "wants" (dDf F_LockBook_wants []) (fVar 0) (fConsA (fVar 1) fNilA)) (fVar 2)) (fC (.int 0))))
def F_LockBook_wanted : List D → G → Res D := bodyF 3 3 b_LockBook_wanted
def b_lets_meet : Env → G → SRes :=
  (fRet (fAndV (fNotV (fMeth "LockBook" "bars_gap" (dDf F_LockBook_bars_gap []) (fVar 0) (fConsA (f2 dIx (fVar 2) (fC (.int 1))) (fConsA (fMeth "LockBook" "wanted" (dDf F_LockBook_wanted []) (fVar 0) (fConsA (fVar 1) (fConsA (fC (.int 1)) fNilA))) fNilA)))) (fNotV (fMeth "LockBook" "bars_key" (dDf F_LockBook_bars_key []) (fVar 0) (fConsA (f2 dIx (fVar 2) (fC (.int 2))) (fConsA (fMeth "LockBook" "wanted" (dDf F_LockBook_wanted []) (fVar 0) (fConsA (fVar 1) (fConsA (fC (.int 0)) fNilA))) fNilA))))))
def F_lets_meet : List D → G → Res D := bodyF 3 3 b_lets_meet
def b_lets_pass : Env → G → SRes :=
  (fRet (fAndV (fNotV (fMeth "LockBook" "bars_gap" (dDf F_LockBook_bars_gap []) (fVar 0) (fConsA (f2 dIx (fVar 2) (fC (.int 1))) (fConsA (fMeth "LockBook" "wanted" (dDf F_LockBook_wanted []) (fVar 0) (fConsA (fVar 1) (fConsA (fC (.int 3)) fNilA))) fNilA)))) (fNotV (fMeth "LockBook" "bars_key" (dDf F_LockBook_bars_key []) (fVar 0) (fConsA (f2 dIx (fVar 2) (fC (.int 2))) (fConsA (fMeth "LockBook" "wanted" (dDf F_LockBook_wanted []) (fVar 0) (fConsA (fVar 1) (fConsA (fC (.int 2)) fNilA))) fNilA))))))
def F_lets_pass : List D → G → Res D := bodyF 3 3 b_lets_pass
end FL

namespace FL
open PySem PySem.Spec PyProof.Rows L2 FR
def b__law_cell : Env → G → SRes :=
  (fSeq (fAsg (fTup (fConsA (fCall dLen (fConsA (f2 dIx (fVar 1) (fC (.int 0))) fNilA)) (fConsA (fCall dLen (fConsA (f2 dIx (fVar 1) (fC (.int 1))) fNilA)) fNilA))) (gTupF (gConss (gSet 2) (gConss (gSet 3) gNils)) 2)) (fSeq (fAsg (fLc (fRange1 (fConsA (fC (.int 4)) fNilA)) (gSet 8) fYes (fCall F__law_pull (fConsA (fVar 0) (fConsA (f2 dIx (fLst (fConsA (fVar 3) (fConsA (fVar 2) (fConsA (fVar 3) (fConsA (fVar 2) fNilA))))) (fVar 8)) fNilA))) [8]) (gUnlF (gConss (gSet 4) (gConss (gSet 5) (gConss (gSet 6) (gConss (gSet 7) gNils)))) 4)) (fSeq (fIfS (fTest (f2 (dEq false) (fCall F__law_pull (fConsA (fVar 0) (fConsA (fC (.int 3)) fNilA))) (fC (.int 0)))) (fRet (fTup (fConsA (fC (.str "gap")) (fConsA (fVar 4) (fConsA (fVar 5) fNilA))))) fNext) (fRet (fTup (fConsA (fC (.str "key")) (fConsA (fVar 4) (fConsA (fIf (fTest (f2 (dEq false) (fCall F__law_pull (fConsA (fVar 0) (fConsA (fC (.int 2)) fNilA))) (fC (.int 0)))) (fVar 5) (fC (.int 0))) (fConsA (fCall F__law_pull (fConsA (fVar 0) (fConsA (fC (.int 2)) fNilA))) (fConsA (fVar 6) (fConsA (fVar 7) fNilA)))))))))))
def F__law_cell : List D → G → Res D := bodyF 2 9 b__law_cell
def b__law_meeting : Env → G → SRes :=
  (fSeq (fIfS (fTest (f2 (dEq false) (f2 dIx (fVar 1) (fC (.int 0))) (fC (.str "gap")))) (fRet (fIf (fTest (fCall F__law_free (fConsA (fVar 0) (fConsA (fC (.str "put")) (fConsA (fC (.int 2)) (fConsA (f2 dIx (fVar 1) (fC (.int 1))) (fConsA (f2 dIx (fVar 1) (fC (.int 2))) fNilA))))))) (fLst (fConsA (fC (.str "put")) fNilA)) (fLst fNilA))) fNext) (fSeq (fAsg (fIf (fTest (f2 (dEq false) (f2 dIx (fVar 1) (fC (.int 3))) (fC (.int 1)))) (fCall F__law_kinds fNilA) (fLst (fConsA (fC (.str "put")) (fConsA (fC (.str "strike")) fNilA)))) (gSet 2)) (fRet (fLc (fSeqI (fVar 2)) (gSet 3) (fTest (fCall F__law_free (fConsA (fVar 0) (fConsA (fVar 3) (fConsA (fC (.int 0)) (fConsA (f2 dIx (fVar 1) (fC (.int 1))) (fConsA (f2 dIx (fVar 1) (fC (.int 2))) fNilA))))))) (fVar 3) [3]))))
def F__law_meeting : List D → G → Res D := bodyF 2 4 b__law_meeting
def b_meeting_kinds : Env → G → SRes :=
  (fSeq (fIfS (fTest (f2 (dEq false) (f2 dIx (fVar 1) (fC (.int 0))) (fC (.str "gap")))) (fRet (fIf (fTest (fCall F_lets_pass (fConsA (fVar 0) (fConsA (fC (.str "put")) (fConsA (fVar 1) fNilA))))) (fCellL (fConsA (fC (.str "put")) fNilA)) (fCellL fNilA))) fNext) (fSeq (fAsg (fIf (fTest (f2 (dEq false) (f2 dIx (fVar 1) (fC (.int 3))) (fC (.int 1)))) (fC K_KINDS) (fTup (fConsA (fC (.str "put")) (fConsA (fC (.str "strike")) fNilA)))) (gSet 2)) (fRet (fLcC (fSeqI (fVar 2)) (gSet 3) (fTest (fCall F_lets_meet (fConsA (fVar 0) (fConsA (fVar 3) (fConsA (fVar 1) fNilA))))) (fVar 3) [3]))))
def F_meeting_kinds : List D → G → Res D := bodyF 2 4 b_meeting_kinds
def L1_law : Env → G → SRes :=
  (fSeq (fAsg (fCall F__law_cell (fConsA (fVar 1) (fConsA (fVar 2) fNilA))) (gSet 5)) (fSeq (fIfS (fNotT (fTest (fCall F__law_same (fConsA (fLst (fConsA (f1 frzD (fCall F_meeting_kinds (fConsA (fVar 3) (fConsA (fVar 5) fNilA)))) fNilA)) (fConsA (fLst (fConsA (fCall F__law_meeting (fConsA (fVar 2) (fConsA (fVar 5) fNilA))) fNilA)) fNilA))))) (fRet (fC (.bl false))) fNext) (fExpr (fLstM dAppC (fCall F_meeting_kinds (fConsA (fVar 3) (fConsA (fVar 5) fNilA))) (fC (.str "get"))))))
def b_law : Env → G → SRes :=
  (fSeq (fAsg (fCall F__law_bag (fConsA (fVar 0) fNilA)) (gSet 1)) (fSeq (fAsg (fCall F__law_parts (fConsA (fVar 1) (fConsA (fC (.int 5)) fNilA))) (gSet 2)) (fSeq (fAsg (fCall F__law_made (fConsA (fVar 2) fNilA)) (gSet 3)) (fSeq (fFor (fRange1 (fConsA (fC (.int 12)) fNilA)) (gSet 4) L1_law) (fRet (fC (.bl true)))))))
def F_law : List D → G → Res D := bodyF 1 6 b_law
end FL

namespace FL
open PySem PySem.Spec PyProof.Rows L2 FR
def top (i : Nat) : Stmt := PySem.Challenge.pw_ghostgap_k36_asks_that_meet.main.body.getD i (.Pass ⟨0, 0, 0, 0⟩)
def bodyOf : Stmt → List Stmt
  | .ClassDef (body := b) .. => b
  | _ => []
def mth (i j : Nat) : Stmt := (bodyOf (top i)).getD j (.Pass ⟨0, 0, 0, 0⟩)
structure Tx (K : PySem.W.Frag) (mg : Str → Option Value) (cls : Str → Addr) : Prop where
  b_abs : mg "abs" = none
  b_all : mg "all" = none
  b_bool : mg "bool" = none
  b_enumerate : mg "enumerate" = none
  b_int : mg "int" = none
  b_isinstance : mg "isinstance" = none
  b_len : mg "len" = none
  b_list : mg "list" = none
  b_max : mg "max" = none
  b_range : mg "range" = none
  b_str : mg "str" = none
  b_tuple : mg "tuple" = none
  b_zip : mg "zip" = none
  c_KINDS : mg "KINDS" = some (.ref (cls "KINDS")) ∧ ∀ m F, Rep K cls m F (.ref (cls "KINDS")) K_KINDS
  c_MOST_GRADES : ∃ t, mg "MOST_GRADES" = some (.int 5 t)
  k_LockBook : Cls K (cls "LockBook")
  m_LockBook : mg "LockBook" = some (.ref (cls "LockBook"))
  f_own_gaps : ∀ c ∈ (["LockBook"] : List Str), Cls K (cls c) ∧ NoAttr K (cls c) "own_gaps"
  f_own_keys : ∀ c ∈ (["LockBook"] : List Str), Cls K (cls c) ∧ NoAttr K (cls c) "own_keys"
  f_own_numbers : ∀ c ∈ (["LockBook"] : List Str), Cls K (cls c) ∧ NoAttr K (cls c) "own_numbers"
  f_own_splits : ∀ c ∈ (["LockBook"] : List Str), Cls K (cls c) ∧ NoAttr K (cls c) "own_splits"
  f_own_wants : ∀ c ∈ (["LockBook"] : List Str), Cls K (cls c) ∧ NoAttr K (cls c) "own_wants"
abbrev FnQ (K : PySem.W.Frag) (x qual : Str) (st : Stmt) (f : Addr) (fd : FuncData) : Prop := FunD K x qual (defArgs st) (defBody st) (defScope st) [] [] f fd
section
variable {P : Program} {w : PySem.World} {K : PySem.W.Frag} {mg : Str → Option Value} {base : Heap} {cls : Str → Addr}
theorem sc__law_bag : FnScope ["_law_script"] ["_law_script"] (defScope (top 38)) := ⟨rfl, rfl, rfl, by decide +kernel, rfl, by decide +kernel, by decide +kernel⟩
theorem ok__law_bag (T : Tx K mg cls) {f : Addr} {fd : FuncData} (F : FnQ K "_law_bag" "_law_bag" (top 38) f fd) : FnOk P w K mg base (L2.CX P w) 1 f fd ["_law_script"] (spF K cls 1 F__law_bag) :=
  fn_F F sc__law_bag rfl (fun cdv A outer s H E hr => by
      have hu := hr.units
      have nd := (sc__law_bag).nd
      have tk := takes_of (X := cxOf (L2.CX P w) P w K mg base ["_law_script"] "_law_bag" (defScope (top 38)) f cdv A outer s H E) (E := E) rfl rfl rfl rfl
      have pas := passes_of (X := cxOf (L2.CX P w) P w K mg base ["_law_script"] "_law_bag" (defScope (top 38)) f cdv A outer s H E) rfl
      exact ⟨_, (fss_one (fs_ret (fe_cell (fa_cons (fe_typ call_list_of cs_list T.b_list bt_list (fa_cons (fe_slice (fe_name 0) fo_none (fo_some fe_int)) fa_nil)) (fa_cons fe_int (fa_cons fe_int (fa_cons fe_int (fa_cons fe_int fa_nil))))))))⟩)
theorem gf__law_bag (T : Tx K mg cls) {f : Addr} {fd : FuncData} (F : FnQ K "_law_bag" "_law_bag" (top 38) f fd) (hm : mg "_law_bag" = some (.ref f)) : GF P w K mg base cls "_law_bag" 1 1 F__law_bag :=
  ⟨⟨f, fd, ["_law_script"], ok__law_bag T F, hm, F.kp, (F.bindsN fun _ _ _ _ _ _ us hl => match us, hl with | [_], _ => rfl)⟩, bodyF_st _ _ _⟩
theorem sc__law_pull : FnScope ["_law_bag_here", "_law_many", "_law_cell_here", "_law_small", "_law_digit", "_law_seed", "_law_step"] ["_law_bag_here", "_law_many"] (defScope (top 39)) := ⟨rfl, rfl, rfl, by decide +kernel, rfl, by decide +kernel, by decide +kernel⟩
theorem ok__law_pull (T : Tx K mg cls) {f : Addr} {fd : FuncData} (F : FnQ K "_law_pull" "_law_pull" (top 39) f fd) : FnOk P w K mg base (L2.CX P w) 1 f fd ["_law_bag_here", "_law_many"] (spF K cls 2 F__law_pull) :=
  fn_F F sc__law_pull rfl (fun cdv A outer s H E hr => by
      have hu := hr.units
      have nd := (sc__law_pull).nd
      have tk := takes_of (X := cxOf (L2.CX P w) P w K mg base ["_law_bag_here", "_law_many", "_law_cell_here", "_law_small", "_law_digit", "_law_seed", "_law_step"] "_law_pull" (defScope (top 39)) f cdv A outer s H E) (E := E) rfl rfl rfl rfl
      have pas := passes_of (X := cxOf (L2.CX P w) P w K mg base ["_law_bag_here", "_law_many", "_law_cell_here", "_law_small", "_law_digit", "_law_seed", "_law_step"] "_law_pull" (defScope (top 39)) f cdv A outer s H E) rfl
      exact ⟨_, (fss_cons (fs_store hu (fe_add (fe_ix hu (fe_name 0) fe_int) fe_int) (fe_name 0) fe_int) (fss_cons (fs_if (ft_w (fw_and (ft_eq hu (fe_ix hu (fe_name 0) fe_int) fe_int) (fw_and1 (ft_lt (fe_ix hu (fe_name 0) fe_int) (fe_blt call_lenAll cs_len T.b_len bt_len (fa_cons (fe_ix hu (fe_name 0) fe_int) fa_nil)))))) (fss_cons (fs_set 2 nd (fe_ix hu (fe_ix hu (fe_name 0) fe_int) (fe_ix hu (fe_name 0) fe_int))) (fss_cons (fs_store hu (fe_add (fe_ix hu (fe_name 0) fe_int) fe_int) (fe_name 0) fe_int) (fss_one (fs_if (ft_ge (fe_blt call_abs cs_abs T.b_abs bt_abs (fa_cons (fe_name 2) fa_nil)) (fe_pow fe_int fe_int)) (fss_one (fs_store hu (fe_blt call_abs cs_abs T.b_abs bt_abs (fa_cons (fe_name 2) fa_nil)) (fe_name 0) fe_int)) (fss_cons (fs_set 3 nd (fe_add (fe_mul (fe_mod (fe_typ call_intAll cs_int T.b_int bt_int (fa_cons (fe_name 2) fa_nil)) fe_int) fe_int) fe_int)) (fss_one (fs_store hu (fe_mod (fe_typ call_intAll cs_int T.b_int bt_int (fa_cons (fe_add (fe_mul (fe_ix hu (fe_name 0) fe_int) fe_int) (fe_name 3)) fa_nil)) fe_int) (fe_name 0) fe_int))))))) fss_nil) (fss_cons (fs_if (ft_gt (fe_ix hu (fe_name 0) fe_int) fe_int) (fss_cons (fs_set 4 nd (fe_mod (fe_typ call_intAll cs_int T.b_int bt_int (fa_cons (fe_ix hu (fe_name 0) fe_int) fa_nil)) (fe_name 1))) (fss_cons (fs_store hu (fe_div (fe_ix hu (fe_name 0) fe_int) (fe_name 1)) (fe_name 0) fe_int) (fss_one (fs_ret (fe_name 4))))) fss_nil) (fss_cons (fs_set 5 nd (fe_ix hu (fe_name 0) fe_int)) (fss_cons (fs_set 6 nd (fe_add (fe_add (fe_mul (fe_name 5) fe_int) (fe_mul (fe_ix hu (fe_name 0) fe_int) fe_int)) fe_int)) (fss_cons (fs_store hu (fe_mod (fe_typ call_intAll cs_int T.b_int bt_int (fa_cons (fe_add (fe_mul (fe_mul (fe_name 5) (fe_name 5)) fe_int) (fe_name 6)) fa_nil)) fe_int) (fe_name 0) fe_int) (fss_one (fs_ret (fe_mod (fe_typ call_intAll cs_int T.b_int bt_int (fa_cons (fe_add (fe_div (fe_ix hu (fe_name 0) fe_int) fe_int) (fe_mul (fe_mod (fe_typ call_intAll cs_int T.b_int bt_int (fa_cons (fe_ix hu (fe_name 0) fe_int) fa_nil)) fe_int) fe_int)) fa_nil)) (fe_name 1))))))))))⟩)
theorem gf__law_pull (T : Tx K mg cls) {f : Addr} {fd : FuncData} (F : FnQ K "_law_pull" "_law_pull" (top 39) f fd) (hm : mg "_law_pull" = some (.ref f)) : GF P w K mg base cls "_law_pull" 1 2 F__law_pull :=
  ⟨⟨f, fd, ["_law_bag_here", "_law_many"], ok__law_pull T F, hm, F.kp, (F.bindsN fun _ _ _ _ _ _ us hl => match us, hl with | [_, _], _ => rfl)⟩, bodyF_st _ _ _⟩
theorem sc__law_cell : FnScope ["_law_bag_here", "_law_parts_here", "_law_many", "_law_wide", "_law_g", "_law_k", "_law_h", "_law_n", "_law_at"] ["_law_bag_here", "_law_parts_here"] (defScope (top 51)) := ⟨rfl, rfl, rfl, by decide +kernel, rfl, by decide +kernel, by decide +kernel⟩
theorem ok__law_cell (T : Tx K mg cls) (g__law_pull : GF P w K mg base cls "_law_pull" 1 2 F__law_pull) {f : Addr} {fd : FuncData} (F : FnQ K "_law_cell" "_law_cell" (top 51) f fd) : FnOk P w K mg base (L2.CX P w) 2 f fd ["_law_bag_here", "_law_parts_here"] (spF K cls 2 F__law_cell) :=
  fn_F F sc__law_cell rfl (fun cdv A outer s H E hr => by
      have hu := hr.units
      have nd := (sc__law_cell).nd
      have tk := takes_of (X := cxOf (L2.CX P w) P w K mg base ["_law_bag_here", "_law_parts_here", "_law_many", "_law_wide", "_law_g", "_law_k", "_law_h", "_law_n", "_law_at"] "_law_cell" (defScope (top 51)) f cdv A outer s H E) (E := E) rfl rfl rfl rfl
      have pas := passes_of (X := cxOf (L2.CX P w) P w K mg base ["_law_bag_here", "_law_parts_here", "_law_many", "_law_wide", "_law_g", "_law_k", "_law_h", "_law_n", "_law_at"] "_law_cell" (defScope (top 51)) f cdv A outer s H E) rfl
      exact ⟨_, (fss_cons (fs_asg (fe_tup (fa_cons (fe_blt call_lenAll cs_len T.b_len bt_len (fa_cons (fe_ix hu (fe_name 1) fe_int) fa_nil)) (fa_cons (fe_blt call_lenAll cs_len T.b_len bt_len (fa_cons (fe_ix hu (fe_name 1) fe_int) fa_nil)) fa_nil))) (fg_tup (n := 2) rfl (fgs_cons (fg_name 2 nd) (fgs_cons (fg_name 3 nd) fgs_nil)))) (fss_cons (fs_asg (fe_lc rfl nd (fi_range1 T.b_range (fa_cons fe_int fa_nil)) (blkOk_by (own := [("_law_at", 8)]) rfl) (fun _ _ _ _ _ => (fg_name 8 nd)) (fun _ _ _ _ _ => fts_nil) (fun _ _ _ _ _ => (fe_call g__law_pull tkW0 (hr.mono (by decide)) (fa_cons (fe_name 0) (fa_cons (fe_ix hu (fe_lst (fa_cons (fe_name 3) (fa_cons (fe_name 2) (fa_cons (fe_name 3) (fa_cons (fe_name 2) fa_nil))))) (fe_name 8)) fa_nil)))) (by decide)) (fg_unl (n := 4) rfl (fgs_cons (fg_name 4 nd) (fgs_cons (fg_name 5 nd) (fgs_cons (fg_name 6 nd) (fgs_cons (fg_name 7 nd) fgs_nil)))))) (fss_cons (fs_if (ft_eq hu (fe_call g__law_pull tk (hr.mono (by decide)) (fa_cons (fe_name 0) (fa_cons fe_int fa_nil))) fe_int) (fss_one (fs_ret (fe_tup (fa_cons fe_str (fa_cons (fe_name 4) (fa_cons (fe_name 5) fa_nil)))))) fss_nil) (fss_one (fs_ret (fe_tup (fa_cons fe_str (fa_cons (fe_name 4) (fa_cons (fe_if (ft_eq hu (fe_call g__law_pull tk (hr.mono (by decide)) (fa_cons (fe_name 0) (fa_cons fe_int fa_nil))) fe_int) (fe_name 5) fe_int) (fa_cons (fe_call g__law_pull tk (hr.mono (by decide)) (fa_cons (fe_name 0) (fa_cons fe_int fa_nil))) (fa_cons (fe_name 6) (fa_cons (fe_name 7) fa_nil))))))))))))⟩)
theorem gf__law_cell (T : Tx K mg cls) (g__law_pull : GF P w K mg base cls "_law_pull" 1 2 F__law_pull) {f : Addr} {fd : FuncData} (F : FnQ K "_law_cell" "_law_cell" (top 51) f fd) (hm : mg "_law_cell" = some (.ref f)) : GF P w K mg base cls "_law_cell" 2 2 F__law_cell :=
  ⟨⟨f, fd, ["_law_bag_here", "_law_parts_here"], ok__law_cell T g__law_pull F, hm, F.kp, (F.bindsN fun _ _ _ _ _ _ us hl => match us, hl with | [_, _], _ => rfl)⟩, bodyF_st _ _ _⟩
theorem sc_LockBook_numbers : FnScope ["self", "found", "table", "row", "entry", "kind", "want", "number"] ["self"] (defScope (mth 23 13)) := ⟨rfl, rfl, rfl, by decide +kernel, rfl, by decide +kernel, by decide +kernel⟩
theorem ok_LockBook_numbers (T : Tx K mg cls) {f : Addr} {fd : FuncData} (F : FnQ K "numbers" "LockBook.numbers" (mth 23 13) f fd) : FnOk P w K mg base (L2.CX P w) 1 f fd ["self"] (spF K cls 1 F_LockBook_numbers) :=
  fn_F F sc_LockBook_numbers rfl (fun cdv A outer s H E hr => by
      have hu := hr.units
      have nd := (sc_LockBook_numbers).nd
      have tk := takes_of (X := cxOf (L2.CX P w) P w K mg base ["self", "found", "table", "row", "entry", "kind", "want", "number"] "LockBook.numbers" (defScope (mth 23 13)) f cdv A outer s H E) (E := E) rfl rfl rfl rfl
      have pas := passes_of (X := cxOf (L2.CX P w) P w K mg base ["self", "found", "table", "row", "entry", "kind", "want", "number"] "LockBook.numbers" (defScope (mth 23 13)) f cdv A outer s H E) rfl
      exact ⟨_, (fss_cons (fs_setLc3 (i := 1) [3, 4] [4] rfl nd (sw_true rfl rfl rfl (by decide +kernel)) (fi_seq (fe_tup (fa_cons (fe_fld T.f_own_keys (fe_name 0)) (fa_cons (fe_fld T.f_own_gaps (fe_name 0)) (fa_cons (fe_fld T.f_own_splits (fe_name 0)) fa_nil))))) (blkOk_by (own := [("table", 2), ("row", 3), ("entry", 4)]) rfl) (fun _ _ _ _ _ => (fg_name 2 nd)) (fun _ _ _ _ _ => fts_nil) (fun _ _ _ _ _ => (fi_seq (fe_name 2))) (fun _ _ _ _ _ => (fg_name 3 nd)) (fun _ _ _ _ _ => fts_nil) (fun _ _ _ _ _ => (fi_seq (fe_name 3))) (fun _ _ _ _ _ => (fg_name 4 nd)) (fun _ _ _ _ _ => fts_nil) (fun _ _ _ _ _ => (fe_name 4)) (by decide) (by decide) (by decide) (by decide) (by decide)) (fss_one (fs_ret (fe_add (fe_name 1) (fe_lc3 [6, 7] [7] rfl nd (fi_seq (fe_gobj (d := K_KINDS) T.c_KINDS.1 T.c_KINDS.2)) (blkOk_by (own := [("kind", 5), ("want", 6), ("number", 7)]) rfl) (fun _ _ _ _ _ => (fg_name 5 nd)) (fun _ _ _ _ _ => fts_nil) (fun _ _ _ _ _ => (fi_seq (fe_ix hu (fe_fld T.f_own_wants (fe_name 0)) (fe_name 5)))) (fun _ _ _ _ _ => (fg_name 6 nd)) (fun _ _ _ _ _ => fts_nil) (fun _ _ _ _ _ => (fi_seq (fe_name 6))) (fun _ _ _ _ _ => (fg_name 7 nd)) (fun _ _ _ _ _ => fts_nil) (fun _ _ _ _ _ => (fe_name 7)) (by decide) (by decide) (by decide) (by decide) (by decide))))))⟩)
theorem gf_LockBook_numbers (T : Tx K mg cls) {f : Addr} {fd : FuncData} (F : FnQ K "numbers" "LockBook.numbers" (mth 23 13) f fd) (hm : Meth K (cls "LockBook") "numbers" f) : GM P w K mg base cls "LockBook" "numbers" 1 1 F_LockBook_numbers [] [] :=
  ⟨T.k_LockBook, ⟨f, fd, ["self"], ok_LockBook_numbers T F, hm, .nil (F.bindsN fun _ _ _ _ _ _ us hl => match us, hl with | [_], _ => rfl)⟩, bodyF_st _ _ _⟩
theorem sc_is_number : FnScope ["value"] ["value"] (defScope (top 13)) := ⟨rfl, rfl, rfl, by decide +kernel, rfl, by decide +kernel, by decide +kernel⟩
theorem ok_is_number (T : Tx K mg cls) {f : Addr} {fd : FuncData} (F : FnQ K "is_number" "is_number" (top 13) f fd) : FnOk P w K mg base (L2.CX P w) 1 f fd ["value"] (spF K cls 1 F_is_number) :=
  fn_F F sc_is_number rfl (fun cdv A outer s H E hr => by
      have hu := hr.units
      have nd := (sc_is_number).nd
      have tk := takes_of (X := cxOf (L2.CX P w) P w K mg base ["value"] "is_number" (defScope (top 13)) f cdv A outer s H E) (E := E) rfl rfl rfl rfl
      have pas := passes_of (X := cxOf (L2.CX P w) P w K mg base ["value"] "is_number" (defScope (top 13)) f cdv A outer s H E) rfl
      exact ⟨_, (fss_one (fs_ret (fe_and (fe_isi1 (by decide) T.b_isinstance T.b_int bt_int (fe_name 0)) (fe_one (fe_not (fe_isi1 (by decide) T.b_isinstance T.b_bool bt_bool (fe_name 0)))))))⟩)
theorem gf_is_number (T : Tx K mg cls) {f : Addr} {fd : FuncData} (F : FnQ K "is_number" "is_number" (top 13) f fd) (hm : mg "is_number" = some (.ref f)) : GF P w K mg base cls "is_number" 1 1 F_is_number :=
  ⟨⟨f, fd, ["value"], ok_is_number T F, hm, F.kp, (F.bindsN fun _ _ _ _ _ _ us hl => match us, hl with | [_], _ => rfl)⟩, bodyF_st _ _ _⟩
theorem sc_is_below : FnScope ["value", "limit"] ["value", "limit"] (defScope (top 14)) := ⟨rfl, rfl, rfl, by decide +kernel, rfl, by decide +kernel, by decide +kernel⟩
theorem ok_is_below (T : Tx K mg cls) (g_is_number : GF P w K mg base cls "is_number" 1 1 F_is_number) {f : Addr} {fd : FuncData} (F : FnQ K "is_below" "is_below" (top 14) f fd) : FnOk P w K mg base (L2.CX P w) 2 f fd ["value", "limit"] (spF K cls 2 F_is_below) :=
  fn_F F sc_is_below rfl (fun cdv A outer s H E hr => by
      have hu := hr.units
      have nd := (sc_is_below).nd
      have tk := takes_of (X := cxOf (L2.CX P w) P w K mg base ["value", "limit"] "is_below" (defScope (top 14)) f cdv A outer s H E) (E := E) rfl rfl rfl rfl
      have pas := passes_of (X := cxOf (L2.CX P w) P w K mg base ["value", "limit"] "is_below" (defScope (top 14)) f cdv A outer s H E) rfl
      exact ⟨_, (fss_one (fs_ret (fe_and (fe_call g_is_number tk (hr.mono (by decide)) (fa_cons (fe_name 0) fa_nil)) (fe_one (fe_leLt fe_int (fe_name 0) (fe_name 1))))))⟩)
theorem gf_is_below (T : Tx K mg cls) (g_is_number : GF P w K mg base cls "is_number" 1 1 F_is_number) {f : Addr} {fd : FuncData} (F : FnQ K "is_below" "is_below" (top 14) f fd) (hm : mg "is_below" = some (.ref f)) : GF P w K mg base cls "is_below" 2 2 F_is_below :=
  ⟨⟨f, fd, ["value", "limit"], ok_is_below T g_is_number F, hm, F.kp, (F.bindsN fun _ _ _ _ _ _ us hl => match us, hl with | [_, _], _ => rfl)⟩, bodyF_st _ _ _⟩
theorem sc_is_pair : FnScope ["value", "first", "second"] ["value", "first", "second"] (defScope (top 16)) := ⟨rfl, rfl, rfl, by decide +kernel, rfl, by decide +kernel, by decide +kernel⟩
theorem ok_is_pair (T : Tx K mg cls) (g_is_below : GF P w K mg base cls "is_below" 2 2 F_is_below) {f : Addr} {fd : FuncData} (F : FnQ K "is_pair" "is_pair" (top 16) f fd) : FnOk P w K mg base (L2.CX P w) 3 f fd ["value", "first", "second"] (spF K cls 3 F_is_pair) :=
  fn_F F sc_is_pair rfl (fun cdv A outer s H E hr => by
      have hu := hr.units
      have nd := (sc_is_pair).nd
      have tk := takes_of (X := cxOf (L2.CX P w) P w K mg base ["value", "first", "second"] "is_pair" (defScope (top 16)) f cdv A outer s H E) (E := E) rfl rfl rfl rfl
      have pas := passes_of (X := cxOf (L2.CX P w) P w K mg base ["value", "first", "second"] "is_pair" (defScope (top 16)) f cdv A outer s H E) rfl
      exact ⟨_, (fss_one (fs_ret (fe_and (fe_isi1 (by decide) T.b_isinstance T.b_tuple bt_tuple (fe_name 0)) (fe_and (fe_eq hu (fe_blt call_lenAll cs_len T.b_len bt_len (fa_cons (fe_name 0) fa_nil)) fe_int) (fe_and (fe_call g_is_below tk (hr.mono (by decide)) (fa_cons (fe_ix hu (fe_name 0) fe_int) (fa_cons (fe_name 1) fa_nil))) (fe_one (fe_call g_is_below tk (hr.mono (by decide)) (fa_cons (fe_ix hu (fe_name 0) fe_int) (fa_cons (fe_name 2) fa_nil)))))))))⟩)
theorem gf_is_pair (T : Tx K mg cls) (g_is_below : GF P w K mg base cls "is_below" 2 2 F_is_below) {f : Addr} {fd : FuncData} (F : FnQ K "is_pair" "is_pair" (top 16) f fd) (hm : mg "is_pair" = some (.ref f)) : GF P w K mg base cls "is_pair" 3 3 F_is_pair :=
  ⟨⟨f, fd, ["value", "first", "second"], ok_is_pair T g_is_below F, hm, F.kp, (F.bindsN fun _ _ _ _ _ _ us hl => match us, hl with | [_, _, _], _ => rfl)⟩, bodyF_st _ _ _⟩
theorem sc_limit_at : FnScope ["size", "index"] ["size", "index"] (defScope (top 21)) := ⟨rfl, rfl, rfl, by decide +kernel, rfl, by decide +kernel, by decide +kernel⟩
theorem ok_limit_at (T : Tx K mg cls) {f : Addr} {fd : FuncData} (F : FnQ K "limit_at" "limit_at" (top 21) f fd) : FnOk P w K mg base (L2.CX P w) 1 f fd ["size", "index"] (spF K cls 2 F_limit_at) :=
  fn_F F sc_limit_at rfl (fun cdv A outer s H E hr => by
      have hu := hr.units
      have nd := (sc_limit_at).nd
      have tk := takes_of (X := cxOf (L2.CX P w) P w K mg base ["size", "index"] "limit_at" (defScope (top 21)) f cdv A outer s H E) (E := E) rfl rfl rfl rfl
      have pas := passes_of (X := cxOf (L2.CX P w) P w K mg base ["size", "index"] "limit_at" (defScope (top 21)) f cdv A outer s H E) rfl
      exact ⟨_, (fss_one (fs_ret (fe_ix hu (fe_name 0) (fe_mod (fe_name 1) fe_int))))⟩)
theorem gf_limit_at (T : Tx K mg cls) {f : Addr} {fd : FuncData} (F : FnQ K "limit_at" "limit_at" (top 21) f fd) (hm : mg "limit_at" = some (.ref f)) : GF P w K mg base cls "limit_at" 1 2 F_limit_at :=
  ⟨⟨f, fd, ["size", "index"], ok_limit_at T F, hm, F.kp, (F.bindsN fun _ _ _ _ _ _ us hl => match us, hl with | [_, _], _ => rfl)⟩, bodyF_st _ _ _⟩
theorem sc_are_wants : FnScope ["value", "size", "index", "want"] ["value", "size"] (defScope (top 22)) := ⟨rfl, rfl, rfl, by decide +kernel, rfl, by decide +kernel, by decide +kernel⟩
theorem ok_are_wants (T : Tx K mg cls) (g_is_pair : GF P w K mg base cls "is_pair" 3 3 F_is_pair) (g_limit_at : GF P w K mg base cls "limit_at" 1 2 F_limit_at) {f : Addr} {fd : FuncData} (F : FnQ K "are_wants" "are_wants" (top 22) f fd) : FnOk P w K mg base (L2.CX P w) 4 f fd ["value", "size"] (spF K cls 2 F_are_wants) :=
  fn_F F sc_are_wants rfl (fun cdv A outer s H E hr => by
      have hu := hr.units
      have nd := (sc_are_wants).nd
      have tk := takes_of (X := cxOf (L2.CX P w) P w K mg base ["value", "size", "index", "want"] "are_wants" (defScope (top 22)) f cdv A outer s H E) (E := E) rfl rfl rfl rfl
      have pas := passes_of (X := cxOf (L2.CX P w) P w K mg base ["value", "size", "index", "want"] "are_wants" (defScope (top 22)) f cdv A outer s H E) rfl
      exact ⟨_, (fss_cons (fs_if (ft_w (fw_or (ft_not (ft_val (fe_isiT (by decide) (by decide) T.b_isinstance (pa_tys_cons (by rfl) T.b_list bt_list (pa_tys_cons (by rfl) T.b_tuple bt_tuple pa_tys_nil)) (fe_name 0)))) (fw_or1 (ft_ne hu (fe_blt call_lenAll cs_len T.b_len bt_len (fa_cons (fe_name 0) fa_nil)) fe_int)))) (fss_one (fs_ret fe_bl)) fss_nil) (fss_one (fs_ret (fe_blt (cr_all rfl) cs_all T.b_all bt_all (fa_cons (fe_lc rfl nd (fi_enum T.b_enumerate (fa_cons (fe_name 0) fa_nil)) (blkOk_by (own := [("index", 2), ("want", 3)]) rfl) (fun _ _ _ _ _ => (fg_tup (n := 2) rfl (fgs_cons (fg_name 2 nd) (fgs_cons (fg_name 3 nd) fgs_nil)))) (fun _ _ _ _ _ => fts_nil) (fun _ _ _ _ _ => (fe_call g_is_pair tkW0 (hr.mono (by decide)) (fa_cons (fe_name 3) (fa_cons (fe_call g_limit_at tkW0 (hr.mono (by decide)) (fa_cons (fe_name 1) (fa_cons (fe_name 2) fa_nil))) (fa_cons fe_int fa_nil))))) (by decide)) fa_nil)))))⟩)
theorem gf_are_wants (T : Tx K mg cls) (g_is_pair : GF P w K mg base cls "is_pair" 3 3 F_is_pair) (g_limit_at : GF P w K mg base cls "limit_at" 1 2 F_limit_at) {f : Addr} {fd : FuncData} (F : FnQ K "are_wants" "are_wants" (top 22) f fd) (hm : mg "are_wants" = some (.ref f)) : GF P w K mg base cls "are_wants" 4 2 F_are_wants :=
  ⟨⟨f, fd, ["value", "size"], ok_are_wants T g_is_pair g_limit_at F, hm, F.kp, (F.bindsN fun _ _ _ _ _ _ us hl => match us, hl with | [_, _], _ => rfl)⟩, bodyF_st _ _ _⟩
theorem sc_fall_of_splits : FnScope ["splits", "at", "pair", "side", "grade"] ["splits"] (defScope (top 18)) := ⟨rfl, rfl, rfl, by decide +kernel, rfl, by decide +kernel, by decide +kernel⟩
theorem ok_fall_of_splits (T : Tx K mg cls) {f : Addr} {fd : FuncData} (F : FnQ K "fall_of_splits" "fall_of_splits" (top 18) f fd) : FnOk P w K mg base (L2.CX P w) 1 f fd ["splits"] (spF K cls 1 F_fall_of_splits) :=
  fn_F F sc_fall_of_splits rfl (fun cdv A outer s H E hr => by
      have hu := hr.units
      have nd := (sc_fall_of_splits).nd
      have tk := takes_of (X := cxOf (L2.CX P w) P w K mg base ["splits", "at", "pair", "side", "grade"] "fall_of_splits" (defScope (top 18)) f cdv A outer s H E) (E := E) rfl rfl rfl rfl
      have pas := passes_of (X := cxOf (L2.CX P w) P w K mg base ["splits", "at", "pair", "side", "grade"] "fall_of_splits" (defScope (top 18)) f cdv A outer s H E) rfl
      exact ⟨_, (fss_cons (fs_for pas rfl (fi_enum T.b_enumerate (fa_cons (fe_name 0) fa_nil)) (fg_tup (n := 2) rfl (fgs_cons (fg_name 1 nd) (fgs_cons (fg_name 2 nd) fgs_nil))) (fss_one (fs_for pas rfl (fi_enum T.b_enumerate (fa_cons (fe_name 2) fa_nil)) (fg_tup (n := 2) rfl (fgs_cons (fg_name 3 nd) (fgs_cons (fg_name 4 nd) fgs_nil))) (fss_one (fs_if (ft_w (fw_or (ft_w (fw_and (ft_eq hu (fe_name 1) fe_int) (fw_and1 (ft_ne hu (fe_name 4) fe_int)))) (fw_or1 (ft_w (fw_and (ft_gt (fe_name 1) fe_int) (fw_and1 (ft_lt (fe_name 4) (fe_ix hu (fe_ix hu (fe_name 0) (fe_sub (fe_name 1) fe_int)) (fe_name 3))))))))) (fss_one (fs_ret (fe_tup (fa_cons (fe_name 1) (fa_cons (fe_name 3) fa_nil))))) fss_nil))))) (fss_one (fs_ret fe_non)))⟩)
theorem gf_fall_of_splits (T : Tx K mg cls) {f : Addr} {fd : FuncData} (F : FnQ K "fall_of_splits" "fall_of_splits" (top 18) f fd) (hm : mg "fall_of_splits" = some (.ref f)) : GF P w K mg base cls "fall_of_splits" 1 1 F_fall_of_splits :=
  ⟨⟨f, fd, ["splits"], ok_fall_of_splits T F, hm, F.kp, (F.bindsN fun _ _ _ _ _ _ us hl => match us, hl with | [_], _ => rfl)⟩, bodyF_st _ _ _⟩
theorem sc_need_splits : FnScope ["splits", "many", "fall", "pair"] ["splits", "many"] (defScope (top 20)) := ⟨rfl, rfl, rfl, by decide +kernel, rfl, by decide +kernel, by decide +kernel⟩
theorem ok_need_splits (T : Tx K mg cls) (g_fall_of_splits : GF P w K mg base cls "fall_of_splits" 1 1 F_fall_of_splits) (g_is_pair : GF P w K mg base cls "is_pair" 3 3 F_is_pair) {f : Addr} {fd : FuncData} (F : FnQ K "need_splits" "need_splits" (top 20) f fd) : FnOk P w K mg base (L2.CX P w) 4 f fd ["splits", "many"] (spF K cls 2 F_need_splits) :=
  fn_F F sc_need_splits rfl (fun cdv A outer s H E hr => by
      have hu := hr.units
      have nd := (sc_need_splits).nd
      have tk := takes_of (X := cxOf (L2.CX P w) P w K mg base ["splits", "many", "fall", "pair"] "need_splits" (defScope (top 20)) f cdv A outer s H E) (E := E) rfl rfl rfl rfl
      have pas := passes_of (X := cxOf (L2.CX P w) P w K mg base ["splits", "many", "fall", "pair"] "need_splits" (defScope (top 20)) f cdv A outer s H E) rfl
      exact ⟨_, (fss_cons (fs_if (ft_w (fw_or (ft_not (ft_val (fe_isiT (by decide) (by decide) T.b_isinstance (pa_tys_cons (by rfl) T.b_list bt_list (pa_tys_cons (by rfl) T.b_tuple bt_tuple pa_tys_nil)) (fe_name 0)))) (fw_or1 (ft_ne hu (fe_blt call_lenAll cs_len T.b_len bt_len (fa_cons (fe_name 0) fa_nil)) (fe_name 1))))) (fss_one fs_dead) fss_nil) (fss_cons (fs_if (ft_not (ft_val (fe_blt (cr_all rfl) cs_all T.b_all bt_all (fa_cons (fe_lc rfl nd (fi_seq (fe_name 0)) (blkOk_by (own := [("pair", 3)]) rfl) (fun _ _ _ _ _ => (fg_name 3 nd)) (fun _ _ _ _ _ => fts_nil) (fun _ _ _ _ _ => (fe_call g_is_pair tkW0 (hr.mono (by decide)) (fa_cons (fe_name 3) (fa_cons (fe_name 1) (fa_cons (fe_name 1) fa_nil))))) (by decide)) fa_nil)))) (fss_one fs_dead) fss_nil) (fss_cons (fs_set 2 nd (fe_call g_fall_of_splits tk (hr.mono (by decide)) (fa_cons (fe_name 0) fa_nil))) (fss_one (fs_if (ft_notN (fe_name 2)) (fss_one fs_dead) fss_nil)))))⟩)
theorem gf_need_splits (T : Tx K mg cls) (g_fall_of_splits : GF P w K mg base cls "fall_of_splits" 1 1 F_fall_of_splits) (g_is_pair : GF P w K mg base cls "is_pair" 3 3 F_is_pair) {f : Addr} {fd : FuncData} (F : FnQ K "need_splits" "need_splits" (top 20) f fd) (hm : mg "need_splits" = some (.ref f)) : GF P w K mg base cls "need_splits" 4 2 F_need_splits :=
  ⟨⟨f, fd, ["splits", "many"], ok_need_splits T g_fall_of_splits g_is_pair F, hm, F.kp, (F.bindsN fun _ _ _ _ _ _ us hl => match us, hl with | [_, _], _ => rfl)⟩, bodyF_st _ _ _⟩
theorem sc_fall_of_table : FnScope ["table", "at", "row", "place", "entry"] ["table"] (defScope (top 17)) := ⟨rfl, rfl, rfl, by decide +kernel, rfl, by decide +kernel, by decide +kernel⟩
theorem ok_fall_of_table (T : Tx K mg cls) {f : Addr} {fd : FuncData} (F : FnQ K "fall_of_table" "fall_of_table" (top 17) f fd) : FnOk P w K mg base (L2.CX P w) 1 f fd ["table"] (spF K cls 1 F_fall_of_table) :=
  fn_F F sc_fall_of_table rfl (fun cdv A outer s H E hr => by
      have hu := hr.units
      have nd := (sc_fall_of_table).nd
      have tk := takes_of (X := cxOf (L2.CX P w) P w K mg base ["table", "at", "row", "place", "entry"] "fall_of_table" (defScope (top 17)) f cdv A outer s H E) (E := E) rfl rfl rfl rfl
      have pas := passes_of (X := cxOf (L2.CX P w) P w K mg base ["table", "at", "row", "place", "entry"] "fall_of_table" (defScope (top 17)) f cdv A outer s H E) rfl
      exact ⟨_, (fss_cons (fs_for pas rfl (fi_enum T.b_enumerate (fa_cons (fe_name 0) fa_nil)) (fg_tup (n := 2) rfl (fgs_cons (fg_name 1 nd) (fgs_cons (fg_name 2 nd) fgs_nil))) (fss_one (fs_for pas rfl (fi_enum T.b_enumerate (fa_cons (fe_name 2) fa_nil)) (fg_tup (n := 2) rfl (fgs_cons (fg_name 3 nd) (fgs_cons (fg_name 4 nd) fgs_nil))) (fss_cons (fs_if (ft_w (fw_and (ft_w (fw_or (ft_eq hu (fe_name 1) fe_int) (fw_or1 (ft_eq hu (fe_name 3) fe_int)))) (fw_and1 (ft_ne hu (fe_name 4) fe_int)))) (fss_one (fs_ret (fe_tup (fa_cons (fe_name 1) (fa_cons (fe_name 3) fa_nil))))) fss_nil) (fss_one (fs_if (ft_w (fw_or (ft_w (fw_and (ft_gt (fe_name 1) fe_int) (fw_and1 (ft_lt (fe_name 4) (fe_ix hu (fe_ix hu (fe_name 0) (fe_sub (fe_name 1) fe_int)) (fe_name 3)))))) (fw_or1 (ft_w (fw_and (ft_gt (fe_name 3) fe_int) (fw_and1 (ft_lt (fe_name 4) (fe_ix hu (fe_name 2) (fe_sub (fe_name 3) fe_int))))))))) (fss_one (fs_ret (fe_tup (fa_cons (fe_name 1) (fa_cons (fe_name 3) fa_nil))))) fss_nil)))))) (fss_one (fs_ret fe_non)))⟩)
theorem gf_fall_of_table (T : Tx K mg cls) {f : Addr} {fd : FuncData} (F : FnQ K "fall_of_table" "fall_of_table" (top 17) f fd) (hm : mg "fall_of_table" = some (.ref f)) : GF P w K mg base cls "fall_of_table" 1 1 F_fall_of_table :=
  ⟨⟨f, fd, ["table"], ok_fall_of_table T F, hm, F.kp, (F.bindsN fun _ _ _ _ _ _ us hl => match us, hl with | [_], _ => rfl)⟩, bodyF_st _ _ _⟩
theorem sc_is_table : FnScope ["value", "row", "entry"] ["value"] (defScope (top 15)) := ⟨rfl, rfl, rfl, by decide +kernel, rfl, by decide +kernel, by decide +kernel⟩
theorem ok_is_table (T : Tx K mg cls) (g_is_below : GF P w K mg base cls "is_below" 2 2 F_is_below) {f : Addr} {fd : FuncData} (F : FnQ K "is_table" "is_table" (top 15) f fd) : FnOk P w K mg base (L2.CX P w) 3 f fd ["value"] (spF K cls 1 F_is_table) :=
  fn_F F sc_is_table rfl (fun cdv A outer s H E hr => by
      have hu := hr.units
      have nd := (sc_is_table).nd
      have tk := takes_of (X := cxOf (L2.CX P w) P w K mg base ["value", "row", "entry"] "is_table" (defScope (top 15)) f cdv A outer s H E) (E := E) rfl rfl rfl rfl
      have pas := passes_of (X := cxOf (L2.CX P w) P w K mg base ["value", "row", "entry"] "is_table" (defScope (top 15)) f cdv A outer s H E) rfl
      exact ⟨_, (fss_cons (fs_if (ft_w (fw_or (ft_not (ft_val (fe_isiT (by decide) (by decide) T.b_isinstance (pa_tys_cons (by rfl) T.b_list bt_list (pa_tys_cons (by rfl) T.b_tuple bt_tuple pa_tys_nil)) (fe_name 0)))) (fw_or1 (ft_not (ft_leLe fe_int (fe_blt call_lenAll cs_len T.b_len bt_len (fa_cons (fe_name 0) fa_nil)) (fe_gint T.c_MOST_GRADES)))))) (fss_one (fs_ret fe_bl)) fss_nil) (fss_cons (fs_for pas rfl (fi_seq (fe_name 0)) (fg_name 1 nd) (fss_cons (fs_if (ft_w (fw_or (ft_not (ft_val (fe_isiT (by decide) (by decide) T.b_isinstance (pa_tys_cons (by rfl) T.b_list bt_list (pa_tys_cons (by rfl) T.b_tuple bt_tuple pa_tys_nil)) (fe_name 1)))) (fw_or1 (ft_ne hu (fe_blt call_lenAll cs_len T.b_len bt_len (fa_cons (fe_name 1) fa_nil)) (fe_blt call_lenAll cs_len T.b_len bt_len (fa_cons (fe_name 0) fa_nil)))))) (fss_one (fs_ret fe_bl)) fss_nil) (fss_one (fs_if (ft_not (ft_val (fe_blt (cr_all rfl) cs_all T.b_all bt_all (fa_cons (fe_lc rfl nd (fi_seq (fe_name 1)) (blkOk_by (own := [("entry", 2)]) rfl) (fun _ _ _ _ _ => (fg_name 2 nd)) (fun _ _ _ _ _ => fts_nil) (fun _ _ _ _ _ => (fe_call g_is_below tkW0 (hr.mono (by decide)) (fa_cons (fe_name 2) (fa_cons fe_int fa_nil)))) (by decide)) fa_nil)))) (fss_one (fs_ret fe_bl)) fss_nil)))) (fss_one (fs_ret fe_bl))))⟩)
theorem gf_is_table (T : Tx K mg cls) (g_is_below : GF P w K mg base cls "is_below" 2 2 F_is_below) {f : Addr} {fd : FuncData} (F : FnQ K "is_table" "is_table" (top 15) f fd) (hm : mg "is_table" = some (.ref f)) : GF P w K mg base cls "is_table" 3 1 F_is_table :=
  ⟨⟨f, fd, ["value"], ok_is_table T g_is_below F, hm, F.kp, (F.bindsN fun _ _ _ _ _ _ us hl => match us, hl with | [_], _ => rfl)⟩, bodyF_st _ _ _⟩
theorem sc_need_table : FnScope ["part", "table", "fall"] ["part", "table"] (defScope (top 19)) := ⟨rfl, rfl, rfl, by decide +kernel, rfl, by decide +kernel, by decide +kernel⟩
theorem ok_need_table (T : Tx K mg cls) (g_fall_of_table : GF P w K mg base cls "fall_of_table" 1 1 F_fall_of_table) (g_is_table : GF P w K mg base cls "is_table" 3 1 F_is_table) {f : Addr} {fd : FuncData} (F : FnQ K "need_table" "need_table" (top 19) f fd) : FnOk P w K mg base (L2.CX P w) 4 f fd ["part", "table"] (spF K cls 2 F_need_table) :=
  fn_F F sc_need_table rfl (fun cdv A outer s H E hr => by
      have hu := hr.units
      have nd := (sc_need_table).nd
      have tk := takes_of (X := cxOf (L2.CX P w) P w K mg base ["part", "table", "fall"] "need_table" (defScope (top 19)) f cdv A outer s H E) (E := E) rfl rfl rfl rfl
      have pas := passes_of (X := cxOf (L2.CX P w) P w K mg base ["part", "table", "fall"] "need_table" (defScope (top 19)) f cdv A outer s H E) rfl
      exact ⟨_, (fss_cons (fs_if (ft_not (ft_val (fe_call g_is_table tk (hr.mono (by decide)) (fa_cons (fe_name 1) fa_nil)))) (fss_one fs_dead) fss_nil) (fss_cons (fs_set 2 nd (fe_call g_fall_of_table tk (hr.mono (by decide)) (fa_cons (fe_name 1) fa_nil))) (fss_one (fs_if (ft_notN (fe_name 2)) (fss_one fs_dead) fss_nil))))⟩)
theorem gf_need_table (T : Tx K mg cls) (g_fall_of_table : GF P w K mg base cls "fall_of_table" 1 1 F_fall_of_table) (g_is_table : GF P w K mg base cls "is_table" 3 1 F_is_table) {f : Addr} {fd : FuncData} (F : FnQ K "need_table" "need_table" (top 19) f fd) (hm : mg "need_table" = some (.ref f)) : GF P w K mg base cls "need_table" 4 2 F_need_table :=
  ⟨⟨f, fd, ["part", "table"], ok_need_table T g_fall_of_table g_is_table F, hm, F.kp, (F.bindsN fun _ _ _ _ _ _ us hl => match us, hl with | [_, _], _ => rfl)⟩, bodyF_st _ _ _⟩
theorem sc_LockBook___init__ : FnScope ["self", "keys", "gaps", "splits", "get", "walk", "put", "strike", "given", "kind", "row"] ["self", "keys", "gaps", "splits", "get", "walk", "put", "strike"] (defScope (mth 23 1)) := ⟨rfl, rfl, rfl, by decide +kernel, rfl, by decide +kernel, by decide +kernel⟩
theorem ok_LockBook___init__ (T : Tx K mg cls) (g_LockBook_numbers : GM P w K mg base cls "LockBook" "numbers" 1 1 F_LockBook_numbers [] []) (g_are_wants : GF P w K mg base cls "are_wants" 4 2 F_are_wants) (g_need_splits : GF P w K mg base cls "need_splits" 4 2 F_need_splits) (g_need_table : GF P w K mg base cls "need_table" 4 2 F_need_table) {f : Addr} {fd : FuncData} (F : FnQ K "__init__" "LockBook.__init__" (mth 23 1) f fd) : FnOk P w K mg base (L2.CX P w) 5 f fd ["self", "keys", "gaps", "splits", "get", "walk", "put", "strike"] (spF K cls 8 F_LockBook___init__) :=
  fn_F F sc_LockBook___init__ rfl (fun cdv A outer s H E hr => by
      have hu := hr.units
      have nd := (sc_LockBook___init__).nd
      have tk := takes_of (X := cxOf (L2.CX P w) P w K mg base ["self", "keys", "gaps", "splits", "get", "walk", "put", "strike", "given", "kind", "row"] "LockBook.__init__" (defScope (mth 23 1)) f cdv A outer s H E) (E := E) rfl rfl rfl rfl
      have pas := passes_of (X := cxOf (L2.CX P w) P w K mg base ["self", "keys", "gaps", "splits", "get", "walk", "put", "strike", "given", "kind", "row"] "LockBook.__init__" (defScope (mth 23 1)) f cdv A outer s H E) rfl
      exact ⟨_, (fss_cons (fs_expr (fe_call g_need_table tk (hr.mono (by decide)) (fa_cons fe_str (fa_cons (fe_name 1) fa_nil)))) (fss_cons (fs_expr (fe_call g_need_table tk (hr.mono (by decide)) (fa_cons fe_str (fa_cons (fe_name 2) fa_nil)))) (fss_cons (fs_expr (fe_call g_need_splits tk (hr.mono (by decide)) (fa_cons (fe_name 3) (fa_cons (fe_blt call_lenAll cs_len T.b_len bt_len (fa_cons (fe_name 2) fa_nil)) fa_nil)))) (fss_cons (fs_set 8 nd (fe_disp (fps_cons fe_str (fe_name 4) (fps_cons fe_str (fe_name 5) (fps_cons fe_str (fe_name 6) (fps_cons fe_str (fe_name 7) fps_nil)))))) (fss_cons (fs_for pas rfl (fi_seq (fe_gobj (d := K_KINDS) T.c_KINDS.1 T.c_KINDS.2)) (fg_name 9 nd) (fss_one (fs_if (ft_not (ft_val (fe_call g_are_wants tk (hr.mono (by decide)) (fa_cons (fe_ix hu (fe_name 8) (fe_name 9)) (fa_cons (fe_tup (fa_cons (fe_blt call_lenAll cs_len T.b_len bt_len (fa_cons (fe_name 1) fa_nil)) (fa_cons (fe_blt call_lenAll cs_len T.b_len bt_len (fa_cons (fe_name 2) fa_nil)) fa_nil))) fa_nil))))) (fss_one fs_dead) fss_nil))) (fss_cons (fs_fld T.f_own_keys (fe_typ call_tuple_of cs_tuple T.b_tuple bt_tuple (fa_cons (fe_lc rfl nd (fi_seq (fe_name 1)) (blkOk_by (own := [("row", 10)]) rfl) (fun _ _ _ _ _ => (fg_name 10 nd)) (fun _ _ _ _ _ => fts_nil) (fun _ _ _ _ _ => (fe_typ call_tuple_of cs_tuple T.b_tuple bt_tuple (fa_cons (fe_name 10) fa_nil))) (by decide)) fa_nil)) (fe_name 0)) (fss_cons (fs_fld T.f_own_gaps (fe_typ call_tuple_of cs_tuple T.b_tuple bt_tuple (fa_cons (fe_lc rfl nd (fi_seq (fe_name 2)) (blkOk_by (own := [("row", 10)]) rfl) (fun _ _ _ _ _ => (fg_name 10 nd)) (fun _ _ _ _ _ => fts_nil) (fun _ _ _ _ _ => (fe_typ call_tuple_of cs_tuple T.b_tuple bt_tuple (fa_cons (fe_name 10) fa_nil))) (by decide)) fa_nil)) (fe_name 0)) (fss_cons (fs_fld T.f_own_splits (fe_typ call_tuple_of cs_tuple T.b_tuple bt_tuple (fa_cons (fe_name 3) fa_nil)) (fe_name 0)) (fss_cons (fs_fld T.f_own_wants (fe_dc rfl nd (fi_seq (fe_gobj (d := K_KINDS) T.c_KINDS.1 T.c_KINDS.2)) (blkOk_by (own := [("kind", 9)]) rfl) (fun _ _ _ _ _ => (fg_name 9 nd)) (fun _ _ _ _ _ => fts_nil) (fun _ _ _ _ _ => (fe_name 9)) (fun _ _ _ _ _ => (fe_typ call_tuple_of cs_tuple T.b_tuple bt_tuple (fa_cons (fe_ix hu (fe_name 8) (fe_name 9)) fa_nil))) (by decide)) (fe_name 0)) (fss_one (fs_fld T.f_own_numbers (fe_lst (fa_cons (fe_blt call_lenAll cs_len T.b_len bt_len (fa_cons (fe_name 1) fa_nil)) (fa_cons (fe_blt call_lenAll cs_len T.b_len bt_len (fa_cons (fe_name 2) fa_nil)) (fa_star (fe_meth0 g_LockBook_numbers tk (hr.mono (by decide)) (fe_name 0)) fa_nil)))) (fe_name 0))))))))))))⟩)
theorem gf_LockBook___init__ (T : Tx K mg cls) (g_LockBook_numbers : GM P w K mg base cls "LockBook" "numbers" 1 1 F_LockBook_numbers [] []) (g_are_wants : GF P w K mg base cls "are_wants" 4 2 F_are_wants) (g_need_splits : GF P w K mg base cls "need_splits" 4 2 F_need_splits) (g_need_table : GF P w K mg base cls "need_table" 4 2 F_need_table) {f : Addr} {fd : FuncData} (F : FnQ K "__init__" "LockBook.__init__" (mth 23 1) f fd) (hm : Mk K (cls "LockBook") f) : GKk P w K mg base cls "LockBook" 5 3 ["get", "walk", "put", "strike"] F_LockBook___init__ :=
  ⟨⟨f, fd, ["self", "keys", "gaps", "splits", "get", "walk", "put", "strike"], ok_LockBook___init__ T g_LockBook_numbers g_are_wants g_need_splits g_need_table F, hm, T.m_LockBook, FunD.kbindsAll F 4 ["get", "walk", "put", "strike"] fun _ _ _ _ _ _ us ws h1 h2 => match us, ws, h1, h2 with | [_, _, _, _], [_, _, _, _], _, _ => rfl⟩, bodyF_st _ _ _⟩
theorem sc__law_made : FnScope ["_law_parts_here"] ["_law_parts_here"] (defScope (top 45)) := ⟨rfl, rfl, rfl, by decide +kernel, rfl, by decide +kernel, by decide +kernel⟩
theorem ok__law_made (T : Tx K mg cls) (g_LockBook___init__ : GKk P w K mg base cls "LockBook" 5 3 ["get", "walk", "put", "strike"] F_LockBook___init__) {f : Addr} {fd : FuncData} (F : FnQ K "_law_made" "_law_made" (top 45) f fd) : FnOk P w K mg base (L2.CX P w) 7 f fd ["_law_parts_here"] (spF K cls 1 F__law_made) :=
  fn_F F sc__law_made rfl (fun cdv A outer s H E hr => by
      have hu := hr.units
      have nd := (sc__law_made).nd
      have tk := takes_of (X := cxOf (L2.CX P w) P w K mg base ["_law_parts_here"] "_law_made" (defScope (top 45)) f cdv A outer s H E) (E := E) rfl rfl rfl rfl
      have pas := passes_of (X := cxOf (L2.CX P w) P w K mg base ["_law_parts_here"] "_law_made" (defScope (top 45)) f cdv A outer s H E) rfl
      exact ⟨_, (fss_one (fs_ret (fe_stay (fe_makeK g_LockBook___init__ tk (hr.mono (by decide)) (fa_cons (fe_ix hu (fe_name 0) fe_int) (fa_cons (fe_ix hu (fe_name 0) fe_int) (fa_cons (fe_ix hu (fe_name 0) fe_int) fa_nil))) (fk_cons (fe_ix hu (fe_name 0) fe_int) (fk_cons (fe_ix hu (fe_name 0) fe_int) (fk_cons (fe_ix hu (fe_name 0) fe_int) (fk_cons (fe_ix hu (fe_name 0) fe_int) fk_nil))))))))⟩)
theorem gf__law_made (T : Tx K mg cls) (g_LockBook___init__ : GKk P w K mg base cls "LockBook" 5 3 ["get", "walk", "put", "strike"] F_LockBook___init__) {f : Addr} {fd : FuncData} (F : FnQ K "_law_made" "_law_made" (top 45) f fd) (hm : mg "_law_made" = some (.ref f)) : GF P w K mg base cls "_law_made" 7 1 F__law_made :=
  ⟨⟨f, fd, ["_law_parts_here"], ok__law_made T g_LockBook___init__ F, hm, F.kp, (F.bindsN fun _ _ _ _ _ _ us hl => match us, hl with | [_], _ => rfl)⟩, bodyF_st _ _ _⟩
theorem sc__law_kinds : FnScope [] [] (defScope (top 47)) := ⟨rfl, rfl, rfl, by decide +kernel, rfl, by decide +kernel, by decide +kernel⟩
theorem ok__law_kinds (T : Tx K mg cls) {f : Addr} {fd : FuncData} (F : FnQ K "_law_kinds" "_law_kinds" (top 47) f fd) : FnOk P w K mg base (L2.CX P w) 1 f fd [] (spF K cls 0 F__law_kinds) :=
  fn_F F sc__law_kinds rfl (fun cdv A outer s H E hr => by
      have hu := hr.units
      have nd := (sc__law_kinds).nd
      have tk := takes_of (X := cxOf (L2.CX P w) P w K mg base [] "_law_kinds" (defScope (top 47)) f cdv A outer s H E) (E := E) rfl rfl rfl rfl
      have pas := passes_of (X := cxOf (L2.CX P w) P w K mg base [] "_law_kinds" (defScope (top 47)) f cdv A outer s H E) rfl
      exact ⟨_, (fss_one (fs_ret (fe_lst (fa_cons fe_str (fa_cons fe_str (fa_cons fe_str (fa_cons fe_str fa_nil)))))))⟩)
theorem gf__law_kinds (T : Tx K mg cls) {f : Addr} {fd : FuncData} (F : FnQ K "_law_kinds" "_law_kinds" (top 47) f fd) (hm : mg "_law_kinds" = some (.ref f)) : GF P w K mg base cls "_law_kinds" 1 0 F__law_kinds :=
  ⟨⟨f, fd, [], ok__law_kinds T F, hm, F.kp, (F.bindsN fun _ _ _ _ _ _ us hl => match us, hl with | [], _ => rfl)⟩, bodyF_st _ _ _⟩
theorem sc__law_wish : FnScope ["_law_parts_here", "_law_kind", "_law_index"] ["_law_parts_here", "_law_kind", "_law_index"] (defScope (top 48)) := ⟨rfl, rfl, rfl, by decide +kernel, rfl, by decide +kernel, by decide +kernel⟩
theorem ok__law_wish (T : Tx K mg cls) (g__law_kinds : GF P w K mg base cls "_law_kinds" 1 0 F__law_kinds) {f : Addr} {fd : FuncData} (F : FnQ K "_law_wish" "_law_wish" (top 48) f fd) : FnOk P w K mg base (L2.CX P w) 2 f fd ["_law_parts_here", "_law_kind", "_law_index"] (spF K cls 3 F__law_wish) :=
  fn_F F sc__law_wish rfl (fun cdv A outer s H E hr => by
      have hu := hr.units
      have nd := (sc__law_wish).nd
      have tk := takes_of (X := cxOf (L2.CX P w) P w K mg base ["_law_parts_here", "_law_kind", "_law_index"] "_law_wish" (defScope (top 48)) f cdv A outer s H E) (E := E) rfl rfl rfl rfl
      have pas := passes_of (X := cxOf (L2.CX P w) P w K mg base ["_law_parts_here", "_law_kind", "_law_index"] "_law_wish" (defScope (top 48)) f cdv A outer s H E) rfl
      exact ⟨_, (fss_one (fs_ret (fe_ix hu (fe_ix hu (fe_ix hu (fe_name 0) (fe_add fe_int (fe_index (fe_call0 g__law_kinds tk (hr.mono (by decide))) (fe_name 1)))) (fe_name 2)) fe_int)))⟩)
theorem gf__law_wish (T : Tx K mg cls) (g__law_kinds : GF P w K mg base cls "_law_kinds" 1 0 F__law_kinds) {f : Addr} {fd : FuncData} (F : FnQ K "_law_wish" "_law_wish" (top 48) f fd) (hm : mg "_law_wish" = some (.ref f)) : GF P w K mg base cls "_law_wish" 2 3 F__law_wish :=
  ⟨⟨f, fd, ["_law_parts_here", "_law_kind", "_law_index"], ok__law_wish T g__law_kinds F, hm, F.kp, (F.bindsN fun _ _ _ _ _ _ us hl => match us, hl with | [_, _, _], _ => rfl)⟩, bodyF_st _ _ _⟩
theorem sc__law_free : FnScope ["_law_parts_here", "_law_kind", "_law_at", "_law_grade", "_law_on_key"] ["_law_parts_here", "_law_kind", "_law_at", "_law_grade", "_law_on_key"] (defScope (top 49)) := ⟨rfl, rfl, rfl, by decide +kernel, rfl, by decide +kernel, by decide +kernel⟩
theorem ok__law_free (T : Tx K mg cls) (g__law_wish : GF P w K mg base cls "_law_wish" 2 3 F__law_wish) {f : Addr} {fd : FuncData} (F : FnQ K "_law_free" "_law_free" (top 49) f fd) : FnOk P w K mg base (L2.CX P w) 3 f fd ["_law_parts_here", "_law_kind", "_law_at", "_law_grade", "_law_on_key"] (spF K cls 5 F__law_free) :=
  fn_F F sc__law_free rfl (fun cdv A outer s H E hr => by
      have hu := hr.units
      have nd := (sc__law_free).nd
      have tk := takes_of (X := cxOf (L2.CX P w) P w K mg base ["_law_parts_here", "_law_kind", "_law_at", "_law_grade", "_law_on_key"] "_law_free" (defScope (top 49)) f cdv A outer s H E) (E := E) rfl rfl rfl rfl
      have pas := passes_of (X := cxOf (L2.CX P w) P w K mg base ["_law_parts_here", "_law_kind", "_law_at", "_law_grade", "_law_on_key"] "_law_free" (defScope (top 49)) f cdv A outer s H E) rfl
      exact ⟨_, (fss_one (fs_ret (fe_and (fe_eq hu (fe_ix hu (fe_ix hu (fe_ix hu (fe_name 0) fe_int) (fe_name 4)) (fe_call g__law_wish tk (hr.mono (by decide)) (fa_cons (fe_name 0) (fa_cons (fe_name 1) (fa_cons (fe_name 2) fa_nil))))) fe_int) (fe_one (fe_eq hu (fe_ix hu (fe_ix hu (fe_ix hu (fe_name 0) fe_int) (fe_name 3)) (fe_call g__law_wish tk (hr.mono (by decide)) (fa_cons (fe_name 0) (fa_cons (fe_name 1) (fa_cons (fe_add (fe_name 2) fe_int) fa_nil))))) fe_int)))))⟩)
theorem gf__law_free (T : Tx K mg cls) (g__law_wish : GF P w K mg base cls "_law_wish" 2 3 F__law_wish) {f : Addr} {fd : FuncData} (F : FnQ K "_law_free" "_law_free" (top 49) f fd) (hm : mg "_law_free" = some (.ref f)) : GF P w K mg base cls "_law_free" 3 5 F__law_free :=
  ⟨⟨f, fd, ["_law_parts_here", "_law_kind", "_law_at", "_law_grade", "_law_on_key"], ok__law_free T g__law_wish F, hm, F.kp, (F.bindsN fun _ _ _ _ _ _ us hl => match us, hl with | [_, _, _, _, _], _ => rfl)⟩, bodyF_st _ _ _⟩
theorem sc__law_meeting : FnScope ["_law_parts_here", "_law_cell_here", "_law_some", "_law_kind"] ["_law_parts_here", "_law_cell_here"] (defScope (top 50)) := ⟨rfl, rfl, rfl, by decide +kernel, rfl, by decide +kernel, by decide +kernel⟩
theorem ok__law_meeting (T : Tx K mg cls) (g__law_free : GF P w K mg base cls "_law_free" 3 5 F__law_free) (g__law_kinds : GF P w K mg base cls "_law_kinds" 1 0 F__law_kinds) {f : Addr} {fd : FuncData} (F : FnQ K "_law_meeting" "_law_meeting" (top 50) f fd) : FnOk P w K mg base (L2.CX P w) 4 f fd ["_law_parts_here", "_law_cell_here"] (spF K cls 2 F__law_meeting) :=
  fn_F F sc__law_meeting rfl (fun cdv A outer s H E hr => by
      have hu := hr.units
      have nd := (sc__law_meeting).nd
      have tk := takes_of (X := cxOf (L2.CX P w) P w K mg base ["_law_parts_here", "_law_cell_here", "_law_some", "_law_kind"] "_law_meeting" (defScope (top 50)) f cdv A outer s H E) (E := E) rfl rfl rfl rfl
      have pas := passes_of (X := cxOf (L2.CX P w) P w K mg base ["_law_parts_here", "_law_cell_here", "_law_some", "_law_kind"] "_law_meeting" (defScope (top 50)) f cdv A outer s H E) rfl
      exact ⟨_, (fss_cons (fs_if (ft_eq hu (fe_ix hu (fe_name 1) fe_int) fe_str) (fss_one (fs_ret (fe_if (ft_val (fe_call g__law_free tk (hr.mono (by decide)) (fa_cons (fe_name 0) (fa_cons fe_str (fa_cons fe_int (fa_cons (fe_ix hu (fe_name 1) fe_int) (fa_cons (fe_ix hu (fe_name 1) fe_int) fa_nil))))))) (fe_lst (fa_cons fe_str fa_nil)) (fe_lst fa_nil)))) fss_nil) (fss_cons (fs_set 2 nd (fe_if (ft_eq hu (fe_ix hu (fe_name 1) fe_int) fe_int) (fe_call0 g__law_kinds tk (hr.mono (by decide))) (fe_lst (fa_cons fe_str (fa_cons fe_str fa_nil))))) (fss_one (fs_ret (fe_lc rfl nd (fi_seq (fe_name 2)) (blkOk_by (own := [("_law_kind", 3)]) rfl) (fun _ _ _ _ _ => (fg_name 3 nd)) (fun _ _ _ _ _ => (fts_one (ft_val (fe_call g__law_free tkW0 (hr.mono (by decide)) (fa_cons (fe_name 0) (fa_cons (fe_name 3) (fa_cons fe_int (fa_cons (fe_ix hu (fe_name 1) fe_int) (fa_cons (fe_ix hu (fe_name 1) fe_int) fa_nil))))))))) (fun _ _ _ _ _ => (fe_name 3)) (by decide))))))⟩)
theorem gf__law_meeting (T : Tx K mg cls) (g__law_free : GF P w K mg base cls "_law_free" 3 5 F__law_free) (g__law_kinds : GF P w K mg base cls "_law_kinds" 1 0 F__law_kinds) {f : Addr} {fd : FuncData} (F : FnQ K "_law_meeting" "_law_meeting" (top 50) f fd) (hm : mg "_law_meeting" = some (.ref f)) : GF P w K mg base cls "_law_meeting" 4 2 F__law_meeting :=
  ⟨⟨f, fd, ["_law_parts_here", "_law_cell_here"], ok__law_meeting T g__law_free g__law_kinds F, hm, F.kp, (F.bindsN fun _ _ _ _ _ _ us hl => match us, hl with | [_, _], _ => rfl)⟩, bodyF_st _ _ _⟩
theorem sc__law_splits : FnScope ["_law_bag_here", "_law_many", "_law_rows", "_law_grade", "_law_low", "_law_high", "_law_way"] ["_law_bag_here", "_law_many"] (defScope (top 42)) := ⟨rfl, rfl, rfl, by decide +kernel, rfl, by decide +kernel, by decide +kernel⟩
theorem ok__law_splits (T : Tx K mg cls) (g__law_pull : GF P w K mg base cls "_law_pull" 1 2 F__law_pull) {f : Addr} {fd : FuncData} (F : FnQ K "_law_splits" "_law_splits" (top 42) f fd) : FnOk P w K mg base (L2.CX P w) 2 f fd ["_law_bag_here", "_law_many"] (spF K cls 2 F__law_splits) :=
  fn_F F sc__law_splits rfl (fun cdv A outer s H E hr => by
      have hu := hr.units
      have nd := (sc__law_splits).nd
      have tk := takes_of (X := cxOf (L2.CX P w) P w K mg base ["_law_bag_here", "_law_many", "_law_rows", "_law_grade", "_law_low", "_law_high", "_law_way"] "_law_splits" (defScope (top 42)) f cdv A outer s H E) (E := E) rfl rfl rfl rfl
      have pas := passes_of (X := cxOf (L2.CX P w) P w K mg base ["_law_bag_here", "_law_many", "_law_rows", "_law_grade", "_law_low", "_law_high", "_law_way"] "_law_splits" (defScope (top 42)) f cdv A outer s H E) rfl
      exact ⟨_, (fss_cons (fs_setL 2 nd (fa_cons (fe_tup (fa_cons fe_int (fa_cons fe_int fa_nil))) fa_nil)) (fss_cons (fs_for pas rfl (fi_range2 T.b_range (fa_cons fe_int (fa_cons (fe_name 1) fa_nil))) (fg_name 3 nd) (fss_cons (fs_asg (fe_ixO 2 hu (fe_sub (fe_name 3) fe_int)) (fg_tup (n := 2) rfl (fgs_cons (fg_name 4 nd) (fgs_cons (fg_name 5 nd) fgs_nil)))) (fss_cons (fs_set 6 nd (fe_call g__law_pull tk (hr.mono (by decide)) (fa_cons (fe_name 0) (fa_cons fe_int fa_nil)))) (fss_cons (fs_if (ft_eq hu (fe_name 6) fe_int) (fss_one (fs_par 4 5 rfl nd (fa_cons (fe_blt (call_max2 rfl) cs_max2 T.b_max bt_max (fa_cons (fe_name 4) (fa_cons (fe_name 3) fa_nil))) (fa_cons (fe_blt (call_max2 rfl) cs_max2 T.b_max bt_max (fa_cons (fe_name 5) (fa_cons (fe_name 3) fa_nil))) fa_nil)) (by decide))) fss_nil) (fss_cons (fs_if (ft_eq hu (fe_name 6) fe_int) (fss_one (fs_set 4 nd (fe_blt (call_max2 rfl) cs_max2 T.b_max bt_max (fa_cons (fe_name 4) (fa_cons (fe_name 3) fa_nil))))) fss_nil) (fss_cons (fs_if (ft_eq hu (fe_name 6) fe_int) (fss_one (fs_set 5 nd (fe_blt (call_max2 rfl) cs_max2 T.b_max bt_max (fa_cons (fe_name 5) (fa_cons (fe_name 3) fa_nil))))) fss_nil) (fss_cons (fs_if (ft_eq hu (fe_name 6) fe_int) (fss_one (fs_par 4 5 rfl nd (fa_cons (fe_add (fe_name 4) (fe_call g__law_pull tk (hr.mono (by decide)) (fa_cons (fe_name 0) (fa_cons (fe_sub (fe_name 1) (fe_name 4)) fa_nil)))) (fa_cons (fe_add (fe_name 5) (fe_call g__law_pull tk (hr.mono (by decide)) (fa_cons (fe_name 0) (fa_cons (fe_sub (fe_name 1) (fe_name 5)) fa_nil)))) fa_nil)) (by decide))) fss_nil) (fss_one (fs_appO 2 (fe_tup (fa_cons (fe_name 4) (fa_cons (fe_name 5) fa_nil)))))))))))) (fss_frz 2 (fss_one (fs_ret (fe_name 2))))))⟩)
theorem gf__law_splits (T : Tx K mg cls) (g__law_pull : GF P w K mg base cls "_law_pull" 1 2 F__law_pull) {f : Addr} {fd : FuncData} (F : FnQ K "_law_splits" "_law_splits" (top 42) f fd) (hm : mg "_law_splits" = some (.ref f)) : GF P w K mg base cls "_law_splits" 2 2 F__law_splits :=
  ⟨⟨f, fd, ["_law_bag_here", "_law_many"], ok__law_splits T g__law_pull F, hm, F.kp, (F.bindsN fun _ _ _ _ _ _ us hl => match us, hl with | [_, _], _ => rfl)⟩, bodyF_st _ _ _⟩
theorem sc__law_table : FnScope ["_law_bag_here", "_law_many", "_law_rows", "_law_at", "_law_row", "_law_place", "_law_least", "_law_one"] ["_law_bag_here", "_law_many"] (defScope (top 41)) := ⟨rfl, rfl, rfl, by decide +kernel, rfl, by decide +kernel, by decide +kernel⟩
theorem ok__law_table (T : Tx K mg cls) (g__law_pull : GF P w K mg base cls "_law_pull" 1 2 F__law_pull) {f : Addr} {fd : FuncData} (F : FnQ K "_law_table" "_law_table" (top 41) f fd) : FnOk P w K mg base (L2.CX P w) 2 f fd ["_law_bag_here", "_law_many"] (spF K cls 2 F__law_table) :=
  fn_F F sc__law_table rfl (fun cdv A outer s H E hr => by
      have hu := hr.units
      have nd := (sc__law_table).nd
      have tk := takes_of (X := cxOf (L2.CX P w) P w K mg base ["_law_bag_here", "_law_many", "_law_rows", "_law_at", "_law_row", "_law_place", "_law_least", "_law_one"] "_law_table" (defScope (top 41)) f cdv A outer s H E) (E := E) rfl rfl rfl rfl
      have pas := passes_of (X := cxOf (L2.CX P w) P w K mg base ["_law_bag_here", "_law_many", "_law_rows", "_law_at", "_law_row", "_law_place", "_law_least", "_law_one"] "_law_table" (defScope (top 41)) f cdv A outer s H E) rfl
      exact ⟨_, (fss_cons (fs_setL 2 nd fa_nil) (fss_cons (fs_for pas rfl (fi_range1 T.b_range (fa_cons (fe_name 1) fa_nil)) (fg_name 3 nd) (fss_cons (fs_setL 4 nd fa_nil) (fss_cons (fs_for pas rfl (fi_range1 T.b_range (fa_cons (fe_name 1) fa_nil)) (fg_name 5 nd) (fss_cons (fs_set 6 nd fe_int) (fss_cons (fs_if (ft_w (fw_and (ft_gt (fe_name 3) fe_int) (fw_and1 (ft_gt (fe_name 5) fe_int)))) (fss_one (fs_set 6 nd (fe_blt (call_max2 rfl) cs_max2 T.b_max bt_max (fa_cons (fe_ix hu (fe_ixO 2 hu (fe_sub (fe_name 3) fe_int)) (fe_name 5)) (fa_cons (fe_ixO 4 hu (fe_sub (fe_name 5) fe_int)) fa_nil))))) fss_nil) (fss_cons (fs_set 7 nd (fe_if (ft_w (fw_and (ft_gt (fe_name 3) fe_int) (fw_and (ft_gt (fe_name 5) fe_int) (fw_and1 (ft_eq hu (fe_call g__law_pull tk (hr.mono (by decide)) (fa_cons (fe_name 0) (fa_cons fe_int fa_nil))) fe_int))))) fe_int fe_int)) (fss_one (fs_appO 4 (fe_blt (call_max2 rfl) cs_max2 T.b_max bt_max (fa_cons (fe_name 6) (fa_cons (fe_name 7) fa_nil))))))))) (fss_frz 4 (fss_one (fs_appO 2 (fe_name 4))))))) (fss_frz 2 (fss_one (fs_ret (fe_name 2))))))⟩)
theorem gf__law_table (T : Tx K mg cls) (g__law_pull : GF P w K mg base cls "_law_pull" 1 2 F__law_pull) {f : Addr} {fd : FuncData} (F : FnQ K "_law_table" "_law_table" (top 41) f fd) (hm : mg "_law_table" = some (.ref f)) : GF P w K mg base cls "_law_table" 2 2 F__law_table :=
  ⟨⟨f, fd, ["_law_bag_here", "_law_many"], ok__law_table T g__law_pull F, hm, F.kp, (F.bindsN fun _ _ _ _ _ _ us hl => match us, hl with | [_, _], _ => rfl)⟩, bodyF_st _ _ _⟩
theorem sc__law_want : FnScope ["_law_bag_here", "_law_many"] ["_law_bag_here", "_law_many"] (defScope (top 43)) := ⟨rfl, rfl, rfl, by decide +kernel, rfl, by decide +kernel, by decide +kernel⟩
theorem ok__law_want (T : Tx K mg cls) (g__law_pull : GF P w K mg base cls "_law_pull" 1 2 F__law_pull) {f : Addr} {fd : FuncData} (F : FnQ K "_law_want" "_law_want" (top 43) f fd) : FnOk P w K mg base (L2.CX P w) 2 f fd ["_law_bag_here", "_law_many"] (spF K cls 2 F__law_want) :=
  fn_F F sc__law_want rfl (fun cdv A outer s H E hr => by
      have hu := hr.units
      have nd := (sc__law_want).nd
      have tk := takes_of (X := cxOf (L2.CX P w) P w K mg base ["_law_bag_here", "_law_many"] "_law_want" (defScope (top 43)) f cdv A outer s H E) (E := E) rfl rfl rfl rfl
      have pas := passes_of (X := cxOf (L2.CX P w) P w K mg base ["_law_bag_here", "_law_many"] "_law_want" (defScope (top 43)) f cdv A outer s H E) rfl
      exact ⟨_, (fss_one (fs_ret (fe_tup (fa_cons (fe_call g__law_pull tk (hr.mono (by decide)) (fa_cons (fe_name 0) (fa_cons (fe_name 1) fa_nil))) (fa_cons (fe_sub fe_int (fe_typ call_intAll cs_int T.b_int bt_int (fa_cons (fe_eq hu (fe_call g__law_pull tk (hr.mono (by decide)) (fa_cons (fe_name 0) (fa_cons fe_int fa_nil))) fe_int) fa_nil))) fa_nil)))))⟩)
theorem gf__law_want (T : Tx K mg cls) (g__law_pull : GF P w K mg base cls "_law_pull" 1 2 F__law_pull) {f : Addr} {fd : FuncData} (F : FnQ K "_law_want" "_law_want" (top 43) f fd) (hm : mg "_law_want" = some (.ref f)) : GF P w K mg base cls "_law_want" 2 2 F__law_want :=
  ⟨⟨f, fd, ["_law_bag_here", "_law_many"], ok__law_want T g__law_pull F, hm, F.kp, (F.bindsN fun _ _ _ _ _ _ us hl => match us, hl with | [_, _], _ => rfl)⟩, bodyF_st _ _ _⟩
theorem sc__law_parts : FnScope ["_law_bag_here", "_law_most", "_law_many", "_law_gaps", "_law_wants", "_law_kind", "_law_k"] ["_law_bag_here", "_law_most"] (defScope (top 44)) := ⟨rfl, rfl, rfl, by decide +kernel, rfl, by decide +kernel, by decide +kernel⟩
theorem ok__law_parts (T : Tx K mg cls) (g__law_pull : GF P w K mg base cls "_law_pull" 1 2 F__law_pull) (g__law_splits : GF P w K mg base cls "_law_splits" 2 2 F__law_splits) (g__law_table : GF P w K mg base cls "_law_table" 2 2 F__law_table) (g__law_want : GF P w K mg base cls "_law_want" 2 2 F__law_want) {f : Addr} {fd : FuncData} (F : FnQ K "_law_parts" "_law_parts" (top 44) f fd) : FnOk P w K mg base (L2.CX P w) 3 f fd ["_law_bag_here", "_law_most"] (spF K cls 2 F__law_parts) :=
  fn_F F sc__law_parts rfl (fun cdv A outer s H E hr => by
      have hu := hr.units
      have nd := (sc__law_parts).nd
      have tk := takes_of (X := cxOf (L2.CX P w) P w K mg base ["_law_bag_here", "_law_most", "_law_many", "_law_gaps", "_law_wants", "_law_kind", "_law_k"] "_law_parts" (defScope (top 44)) f cdv A outer s H E) (E := E) rfl rfl rfl rfl
      have pas := passes_of (X := cxOf (L2.CX P w) P w K mg base ["_law_bag_here", "_law_most", "_law_many", "_law_gaps", "_law_wants", "_law_kind", "_law_k"] "_law_parts" (defScope (top 44)) f cdv A outer s H E) rfl
      exact ⟨_, (fss_cons (fs_asg (fe_tup (fa_cons (fe_add fe_int (fe_call g__law_pull tk (hr.mono (by decide)) (fa_cons (fe_name 0) (fa_cons (fe_name 1) fa_nil)))) (fa_cons (fe_add fe_int (fe_call g__law_pull tk (hr.mono (by decide)) (fa_cons (fe_name 0) (fa_cons (fe_name 1) fa_nil)))) fa_nil))) (fg_tup (n := 2) rfl (fgs_cons (fg_name 2 nd) (fgs_cons (fg_name 3 nd) fgs_nil)))) (fss_cons (fs_setLc (i := 4) rfl nd (sw_true rfl rfl rfl (by decide +kernel)) (fi_range1 T.b_range (fa_cons fe_int fa_nil)) (blkOk_by (own := [("_law_kind", 5)]) rfl) (fun _ _ _ _ _ => (fg_name 5 nd)) (fun _ _ _ _ _ => fts_nil) (fun _ _ _ _ _ => (fe_lc rfl nd (fi_range1 T.b_range (fa_cons fe_int fa_nil)) (blkOk_by (own := [("_law_k", 6)]) rfl) (fun _ _ _ _ _ => (fg_name 6 nd)) (fun _ _ _ _ _ => fts_nil) (fun _ _ _ _ _ => (fe_call g__law_want tkW0 (hr.mono (by decide)) (fa_cons (fe_name 0) (fa_cons (fe_ix hu (fe_lst (fa_cons (fe_name 2) (fa_cons (fe_name 3) fa_nil))) (fe_mod (fe_name 6) fe_int)) fa_nil)))) (by decide))) (by decide)) (fss_one (fs_ret (fe_add (fe_lst (fa_cons (fe_call g__law_table tk (hr.mono (by decide)) (fa_cons (fe_name 0) (fa_cons (fe_name 2) fa_nil))) (fa_cons (fe_call g__law_table tk (hr.mono (by decide)) (fa_cons (fe_name 0) (fa_cons (fe_name 3) fa_nil))) (fa_cons (fe_call g__law_splits tk (hr.mono (by decide)) (fa_cons (fe_name 0) (fa_cons (fe_name 3) fa_nil))) fa_nil)))) (fe_name 4))))))⟩)
theorem gf__law_parts (T : Tx K mg cls) (g__law_pull : GF P w K mg base cls "_law_pull" 1 2 F__law_pull) (g__law_splits : GF P w K mg base cls "_law_splits" 2 2 F__law_splits) (g__law_table : GF P w K mg base cls "_law_table" 2 2 F__law_table) (g__law_want : GF P w K mg base cls "_law_want" 2 2 F__law_want) {f : Addr} {fd : FuncData} (F : FnQ K "_law_parts" "_law_parts" (top 44) f fd) (hm : mg "_law_parts" = some (.ref f)) : GF P w K mg base cls "_law_parts" 3 2 F__law_parts :=
  ⟨⟨f, fd, ["_law_bag_here", "_law_most"], ok__law_parts T g__law_pull g__law_splits g__law_table g__law_want F, hm, F.kp, (F.bindsN fun _ _ _ _ _ _ us hl => match us, hl with | [_, _], _ => rfl)⟩, bodyF_st _ _ _⟩
theorem sc__law_same : FnScope ["_law_found", "_law_due", "_law_a", "_law_b"] ["_law_found", "_law_due"] (defScope (top 46)) := ⟨rfl, rfl, rfl, by decide +kernel, rfl, by decide +kernel, by decide +kernel⟩
theorem gf__law_same (T : Tx K mg cls) {f : Addr} {fd : FuncData} (F : FnQ K "_law_same" "_law_same" (top 46) f fd) (hm : mg "_law_same" = some (.ref f)) : ∀ n, GF P w K mg base cls "_law_same" (0 + n) 2 (R__law_same n)
  | 0 => ⟨⟨f, fd, ["_law_found", "_law_due"], ⟨fun vs H Q E h => h.1, fun A outer s H args us vs Q E _ _ _ _ h => by obtain ⟨_, _, _, _, _, _, _, z⟩ := h; exact z.elim⟩, hm, F.kp, (F.bindsN fun _ _ _ _ _ _ us hl => match us, hl with | [_, _], _ => rfl)⟩, fun _ _ _ => rfl⟩
  | n + 1 => by
    have g__law_same := gf__law_same T F hm n
    exact ⟨⟨f, fd, ["_law_found", "_law_due"], fn_F (k := 0 + n) F sc__law_same rfl (fun cdv A outer s H E hr => by
        have hu := hr.units
        have nd := (sc__law_same).nd
        have tk := takes_of (X := cxOf (L2.CX P w) P w K mg base ["_law_found", "_law_due", "_law_a", "_law_b"] "_law_same" (defScope (top 46)) f cdv A outer s H E) (E := E) rfl rfl rfl rfl
        have pas := passes_of (X := cxOf (L2.CX P w) P w K mg base ["_law_found", "_law_due", "_law_a", "_law_b"] "_law_same" (defScope (top 46)) f cdv A outer s H E) rfl
        exact ⟨_, (fss_cons (fs_if (ft_w (fw_or (ft_isN (fe_name 1)) (fw_or1 (ft_isN (fe_name 0))))) (fss_one (fs_ret (fe_and (fe_isN (fe_name 1)) (fe_one (fe_isN (fe_name 0)))))) fss_nil) (fss_cons (fs_if (ft_w (fw_or (ft_val (fe_isi1 (by decide) T.b_isinstance T.b_bool bt_bool (fe_name 1))) (fw_or1 (ft_val (fe_isi1 (by decide) T.b_isinstance T.b_bool bt_bool (fe_name 0)))))) (fss_one (fs_ret (fe_and (fe_isi1 (by decide) T.b_isinstance T.b_bool bt_bool (fe_name 1)) (fe_and (fe_isi1 (by decide) T.b_isinstance T.b_bool bt_bool (fe_name 0)) (fe_one (fe_eq hu (fe_name 0) (fe_name 1))))))) fss_nil) (fss_cons (fs_if (ft_w (fw_or (ft_val (fe_isiT (by decide) (by decide) T.b_isinstance (pa_tys_cons (by rfl) T.b_list bt_list (pa_tys_cons (by rfl) T.b_tuple bt_tuple pa_tys_nil)) (fe_name 1))) (fw_or1 (ft_val (fe_isiT (by decide) (by decide) T.b_isinstance (pa_tys_cons (by rfl) T.b_list bt_list (pa_tys_cons (by rfl) T.b_tuple bt_tuple pa_tys_nil)) (fe_name 0)))))) (fss_cons (fs_if (ft_ne hu (fe_isi1 (by decide) T.b_isinstance T.b_list bt_list (fe_name 1)) (fe_isi1 (by decide) T.b_isinstance T.b_list bt_list (fe_name 0))) (fss_one (fs_ret fe_bl)) fss_nil) (fss_cons (fs_if (ft_w (fw_or (ft_ne hu (fe_isi1 (by decide) T.b_isinstance T.b_tuple bt_tuple (fe_name 1)) (fe_isi1 (by decide) T.b_isinstance T.b_tuple bt_tuple (fe_name 0))) (fw_or1 (ft_ne hu (fe_blt call_lenAll cs_len T.b_len bt_len (fa_cons (fe_name 0) fa_nil)) (fe_blt call_lenAll cs_len T.b_len bt_len (fa_cons (fe_name 1) fa_nil)))))) (fss_one (fs_ret fe_bl)) fss_nil) (fss_one (fs_ret (fe_blt (cr_all rfl) cs_all T.b_all bt_all (fa_cons (fe_lc rfl nd (fi_zip T.b_zip (fa_cons (fe_name 0) (fa_cons (fe_name 1) fa_nil))) (blkOk_by (own := [("_law_a", 2), ("_law_b", 3)]) rfl) (fun _ _ _ _ _ => (fg_tup (n := 2) rfl (fgs_cons (fg_name 2 nd) (fgs_cons (fg_name 3 nd) fgs_nil)))) (fun _ _ _ _ _ => fts_nil) (fun _ _ _ _ _ => (fe_call g__law_same tkW0 (hr.mono (by omega)) (fa_cons (fe_name 2) (fa_cons (fe_name 3) fa_nil)))) (by decide)) fa_nil)))))) fss_nil) (fss_cons (fs_if (ft_ne hu (fe_isi1 (by decide) T.b_isinstance T.b_int bt_int (fe_name 1)) (fe_isi1 (by decide) T.b_isinstance T.b_int bt_int (fe_name 0))) (fss_one (fs_ret fe_bl)) fss_nil) (fss_one (fs_ret (fe_and (fe_eq hu (fe_isi1 (by decide) T.b_isinstance T.b_str bt_str (fe_name 1)) (fe_isi1 (by decide) T.b_isinstance T.b_str bt_str (fe_name 0))) (fe_one (fe_eq hu (fe_name 0) (fe_name 1))))))))))⟩), hm, F.kp, (F.bindsN fun _ _ _ _ _ _ us hl => match us, hl with | [_, _], _ => rfl)⟩, bodyF_st _ _ _⟩
theorem sc_LockBook_bars_gap : FnScope ["self", "held", "wanted"] ["self", "held", "wanted"] (defScope (mth 23 11)) := ⟨rfl, rfl, rfl, by decide +kernel, rfl, by decide +kernel, by decide +kernel⟩
theorem ok_LockBook_bars_gap (T : Tx K mg cls) {f : Addr} {fd : FuncData} (F : FnQ K "bars_gap" "LockBook.bars_gap" (mth 23 11) f fd) : FnOk P w K mg base (L2.CX P w) 1 f fd ["self", "held", "wanted"] (spF K cls 3 F_LockBook_bars_gap) :=
  fn_F F sc_LockBook_bars_gap rfl (fun cdv A outer s H E hr => by
      have hu := hr.units
      have nd := (sc_LockBook_bars_gap).nd
      have tk := takes_of (X := cxOf (L2.CX P w) P w K mg base ["self", "held", "wanted"] "LockBook.bars_gap" (defScope (mth 23 11)) f cdv A outer s H E) (E := E) rfl rfl rfl rfl
      have pas := passes_of (X := cxOf (L2.CX P w) P w K mg base ["self", "held", "wanted"] "LockBook.bars_gap" (defScope (mth 23 11)) f cdv A outer s H E) rfl
      exact ⟨_, (fss_one (fs_ret (fe_eq hu (fe_ix hu (fe_ix hu (fe_fld T.f_own_gaps (fe_name 0)) (fe_name 1)) (fe_name 2)) fe_int)))⟩)
theorem gf_LockBook_bars_gap (T : Tx K mg cls) {f : Addr} {fd : FuncData} (F : FnQ K "bars_gap" "LockBook.bars_gap" (mth 23 11) f fd) (hm : Meth K (cls "LockBook") "bars_gap" f) : GM P w K mg base cls "LockBook" "bars_gap" 1 3 F_LockBook_bars_gap [] [] :=
  ⟨T.k_LockBook, ⟨f, fd, ["self", "held", "wanted"], ok_LockBook_bars_gap T F, hm, .nil (F.bindsN fun _ _ _ _ _ _ us hl => match us, hl with | [_, _, _], _ => rfl)⟩, bodyF_st _ _ _⟩
theorem sc_LockBook_bars_key : FnScope ["self", "held", "wanted"] ["self", "held", "wanted"] (defScope (mth 23 10)) := ⟨rfl, rfl, rfl, by decide +kernel, rfl, by decide +kernel, by decide +kernel⟩
theorem ok_LockBook_bars_key (T : Tx K mg cls) {f : Addr} {fd : FuncData} (F : FnQ K "bars_key" "LockBook.bars_key" (mth 23 10) f fd) : FnOk P w K mg base (L2.CX P w) 1 f fd ["self", "held", "wanted"] (spF K cls 3 F_LockBook_bars_key) :=
  fn_F F sc_LockBook_bars_key rfl (fun cdv A outer s H E hr => by
      have hu := hr.units
      have nd := (sc_LockBook_bars_key).nd
      have tk := takes_of (X := cxOf (L2.CX P w) P w K mg base ["self", "held", "wanted"] "LockBook.bars_key" (defScope (mth 23 10)) f cdv A outer s H E) (E := E) rfl rfl rfl rfl
      have pas := passes_of (X := cxOf (L2.CX P w) P w K mg base ["self", "held", "wanted"] "LockBook.bars_key" (defScope (mth 23 10)) f cdv A outer s H E) rfl
      exact ⟨_, (fss_one (fs_ret (fe_eq hu (fe_ix hu (fe_ix hu (fe_fld T.f_own_keys (fe_name 0)) (fe_name 1)) (fe_name 2)) fe_int)))⟩)
theorem gf_LockBook_bars_key (T : Tx K mg cls) {f : Addr} {fd : FuncData} (F : FnQ K "bars_key" "LockBook.bars_key" (mth 23 10) f fd) (hm : Meth K (cls "LockBook") "bars_key" f) : GM P w K mg base cls "LockBook" "bars_key" 1 3 F_LockBook_bars_key [] [] :=
  ⟨T.k_LockBook, ⟨f, fd, ["self", "held", "wanted"], ok_LockBook_bars_key T F, hm, .nil (F.bindsN fun _ _ _ _ _ _ us hl => match us, hl with | [_, _, _], _ => rfl)⟩, bodyF_st _ _ _⟩
theorem sc_LockBook_wants : FnScope ["self", "kind"] ["self", "kind"] (defScope (mth 23 6)) := ⟨rfl, rfl, rfl, by decide +kernel, rfl, by decide +kernel, by decide +kernel⟩
theorem ok_LockBook_wants (T : Tx K mg cls) {f : Addr} {fd : FuncData} (F : FnQ K "wants" "LockBook.wants" (mth 23 6) f fd) : FnOk P w K mg base (L2.CX P w) 1 f fd ["self", "kind"] (spF K cls 2 F_LockBook_wants) :=
  fn_F F sc_LockBook_wants rfl (fun cdv A outer s H E hr => by
      have hu := hr.units
      have nd := (sc_LockBook_wants).nd
      have tk := takes_of (X := cxOf (L2.CX P w) P w K mg base ["self", "kind"] "LockBook.wants" (defScope (mth 23 6)) f cdv A outer s H E) (E := E) rfl rfl rfl rfl
      have pas := passes_of (X := cxOf (L2.CX P w) P w K mg base ["self", "kind"] "LockBook.wants" (defScope (mth 23 6)) f cdv A outer s H E) rfl
      exact ⟨_, (fss_cons (fs_if (ft_notin hu (fe_name 1) (fe_gobj (d := K_KINDS) T.c_KINDS.1 T.c_KINDS.2)) (fss_one fs_dead) fss_nil) (fss_one (fs_ret (fe_ix hu (fe_fld T.f_own_wants (fe_name 0)) (fe_name 1)))))⟩)
theorem gf_LockBook_wants (T : Tx K mg cls) {f : Addr} {fd : FuncData} (F : FnQ K "wants" "LockBook.wants" (mth 23 6) f fd) (hm : Meth K (cls "LockBook") "wants" f) : GM P w K mg base cls "LockBook" "wants" 1 2 F_LockBook_wants [] [] :=
  ⟨T.k_LockBook, ⟨f, fd, ["self", "kind"], ok_LockBook_wants T F, hm, .nil (F.bindsN fun _ _ _ _ _ _ us hl => match us, hl with | [_, _], _ => rfl)⟩, bodyF_st _ _ _⟩
theorem sc_LockBook_wanted : FnScope ["self", "kind", "index"] ["self", "kind", "index"] (defScope (mth 23 7)) := ⟨rfl, rfl, rfl, by decide +kernel, rfl, by decide +kernel, by decide +kernel⟩
theorem ok_LockBook_wanted (T : Tx K mg cls) (g_LockBook_wants : GM P w K mg base cls "LockBook" "wants" 1 2 F_LockBook_wants [] []) {f : Addr} {fd : FuncData} (F : FnQ K "wanted" "LockBook.wanted" (mth 23 7) f fd) : FnOk P w K mg base (L2.CX P w) 2 f fd ["self", "kind", "index"] (spF K cls 3 F_LockBook_wanted) :=
  fn_F F sc_LockBook_wanted rfl (fun cdv A outer s H E hr => by
      have hu := hr.units
      have nd := (sc_LockBook_wanted).nd
      have tk := takes_of (X := cxOf (L2.CX P w) P w K mg base ["self", "kind", "index"] "LockBook.wanted" (defScope (mth 23 7)) f cdv A outer s H E) (E := E) rfl rfl rfl rfl
      have pas := passes_of (X := cxOf (L2.CX P w) P w K mg base ["self", "kind", "index"] "LockBook.wanted" (defScope (mth 23 7)) f cdv A outer s H E) rfl
      exact ⟨_, (fss_one (fs_ret (fe_ix hu (fe_ix hu (fe_meth g_LockBook_wants tk (hr.mono (by decide)) (fe_name 0) (fa_cons (fe_name 1) fa_nil)) (fe_name 2)) fe_int)))⟩)
theorem gf_LockBook_wanted (T : Tx K mg cls) (g_LockBook_wants : GM P w K mg base cls "LockBook" "wants" 1 2 F_LockBook_wants [] []) {f : Addr} {fd : FuncData} (F : FnQ K "wanted" "LockBook.wanted" (mth 23 7) f fd) (hm : Meth K (cls "LockBook") "wanted" f) : GM P w K mg base cls "LockBook" "wanted" 2 3 F_LockBook_wanted [] [] :=
  ⟨T.k_LockBook, ⟨f, fd, ["self", "kind", "index"], ok_LockBook_wanted T g_LockBook_wants F, hm, .nil (F.bindsN fun _ _ _ _ _ _ us hl => match us, hl with | [_, _, _], _ => rfl)⟩, bodyF_st _ _ _⟩
theorem sc_lets_meet : FnScope ["book", "kind", "cell"] ["book", "kind", "cell"] (defScope (top 35)) := ⟨rfl, rfl, rfl, by decide +kernel, rfl, by decide +kernel, by decide +kernel⟩
theorem ok_lets_meet (T : Tx K mg cls) (g_LockBook_bars_gap : GM P w K mg base cls "LockBook" "bars_gap" 1 3 F_LockBook_bars_gap [] []) (g_LockBook_bars_key : GM P w K mg base cls "LockBook" "bars_key" 1 3 F_LockBook_bars_key [] []) (g_LockBook_wanted : GM P w K mg base cls "LockBook" "wanted" 2 3 F_LockBook_wanted [] []) {f : Addr} {fd : FuncData} (F : FnQ K "lets_meet" "lets_meet" (top 35) f fd) : FnOk P w K mg base (L2.CX P w) 3 f fd ["book", "kind", "cell"] (spF K cls 3 F_lets_meet) :=
  fn_F F sc_lets_meet rfl (fun cdv A outer s H E hr => by
      have hu := hr.units
      have nd := (sc_lets_meet).nd
      have tk := takes_of (X := cxOf (L2.CX P w) P w K mg base ["book", "kind", "cell"] "lets_meet" (defScope (top 35)) f cdv A outer s H E) (E := E) rfl rfl rfl rfl
      have pas := passes_of (X := cxOf (L2.CX P w) P w K mg base ["book", "kind", "cell"] "lets_meet" (defScope (top 35)) f cdv A outer s H E) rfl
      exact ⟨_, (fss_one (fs_ret (fe_and (fe_not (fe_meth g_LockBook_bars_gap tk (hr.mono (by decide)) (fe_name 0) (fa_cons (fe_ix hu (fe_name 2) fe_int) (fa_cons (fe_meth g_LockBook_wanted tk (hr.mono (by decide)) (fe_name 0) (fa_cons (fe_name 1) (fa_cons fe_int fa_nil))) fa_nil)))) (fe_one (fe_not (fe_meth g_LockBook_bars_key tk (hr.mono (by decide)) (fe_name 0) (fa_cons (fe_ix hu (fe_name 2) fe_int) (fa_cons (fe_meth g_LockBook_wanted tk (hr.mono (by decide)) (fe_name 0) (fa_cons (fe_name 1) (fa_cons fe_int fa_nil))) fa_nil))))))))⟩)
theorem gf_lets_meet (T : Tx K mg cls) (g_LockBook_bars_gap : GM P w K mg base cls "LockBook" "bars_gap" 1 3 F_LockBook_bars_gap [] []) (g_LockBook_bars_key : GM P w K mg base cls "LockBook" "bars_key" 1 3 F_LockBook_bars_key [] []) (g_LockBook_wanted : GM P w K mg base cls "LockBook" "wanted" 2 3 F_LockBook_wanted [] []) {f : Addr} {fd : FuncData} (F : FnQ K "lets_meet" "lets_meet" (top 35) f fd) (hm : mg "lets_meet" = some (.ref f)) : GF P w K mg base cls "lets_meet" 3 3 F_lets_meet :=
  ⟨⟨f, fd, ["book", "kind", "cell"], ok_lets_meet T g_LockBook_bars_gap g_LockBook_bars_key g_LockBook_wanted F, hm, F.kp, (F.bindsN fun _ _ _ _ _ _ us hl => match us, hl with | [_, _, _], _ => rfl)⟩, bodyF_st _ _ _⟩
theorem sc_lets_pass : FnScope ["book", "kind", "cell"] ["book", "kind", "cell"] (defScope (top 34)) := ⟨rfl, rfl, rfl, by decide +kernel, rfl, by decide +kernel, by decide +kernel⟩
theorem ok_lets_pass (T : Tx K mg cls) (g_LockBook_bars_gap : GM P w K mg base cls "LockBook" "bars_gap" 1 3 F_LockBook_bars_gap [] []) (g_LockBook_bars_key : GM P w K mg base cls "LockBook" "bars_key" 1 3 F_LockBook_bars_key [] []) (g_LockBook_wanted : GM P w K mg base cls "LockBook" "wanted" 2 3 F_LockBook_wanted [] []) {f : Addr} {fd : FuncData} (F : FnQ K "lets_pass" "lets_pass" (top 34) f fd) : FnOk P w K mg base (L2.CX P w) 3 f fd ["book", "kind", "cell"] (spF K cls 3 F_lets_pass) :=
  fn_F F sc_lets_pass rfl (fun cdv A outer s H E hr => by
      have hu := hr.units
      have nd := (sc_lets_pass).nd
      have tk := takes_of (X := cxOf (L2.CX P w) P w K mg base ["book", "kind", "cell"] "lets_pass" (defScope (top 34)) f cdv A outer s H E) (E := E) rfl rfl rfl rfl
      have pas := passes_of (X := cxOf (L2.CX P w) P w K mg base ["book", "kind", "cell"] "lets_pass" (defScope (top 34)) f cdv A outer s H E) rfl
      exact ⟨_, (fss_one (fs_ret (fe_and (fe_not (fe_meth g_LockBook_bars_gap tk (hr.mono (by decide)) (fe_name 0) (fa_cons (fe_ix hu (fe_name 2) fe_int) (fa_cons (fe_meth g_LockBook_wanted tk (hr.mono (by decide)) (fe_name 0) (fa_cons (fe_name 1) (fa_cons fe_int fa_nil))) fa_nil)))) (fe_one (fe_not (fe_meth g_LockBook_bars_key tk (hr.mono (by decide)) (fe_name 0) (fa_cons (fe_ix hu (fe_name 2) fe_int) (fa_cons (fe_meth g_LockBook_wanted tk (hr.mono (by decide)) (fe_name 0) (fa_cons (fe_name 1) (fa_cons fe_int fa_nil))) fa_nil))))))))⟩)
theorem gf_lets_pass (T : Tx K mg cls) (g_LockBook_bars_gap : GM P w K mg base cls "LockBook" "bars_gap" 1 3 F_LockBook_bars_gap [] []) (g_LockBook_bars_key : GM P w K mg base cls "LockBook" "bars_key" 1 3 F_LockBook_bars_key [] []) (g_LockBook_wanted : GM P w K mg base cls "LockBook" "wanted" 2 3 F_LockBook_wanted [] []) {f : Addr} {fd : FuncData} (F : FnQ K "lets_pass" "lets_pass" (top 34) f fd) (hm : mg "lets_pass" = some (.ref f)) : GF P w K mg base cls "lets_pass" 3 3 F_lets_pass :=
  ⟨⟨f, fd, ["book", "kind", "cell"], ok_lets_pass T g_LockBook_bars_gap g_LockBook_bars_key g_LockBook_wanted F, hm, F.kp, (F.bindsN fun _ _ _ _ _ _ us hl => match us, hl with | [_, _, _], _ => rfl)⟩, bodyF_st _ _ _⟩
theorem sc_meeting_kinds : FnScope ["book", "cell", "kinds", "kind"] ["book", "cell"] (defScope (top 36)) := ⟨rfl, rfl, rfl, by decide +kernel, rfl, by decide +kernel, by decide +kernel⟩
theorem ok_meeting_kinds (T : Tx K mg cls) (g_lets_meet : GF P w K mg base cls "lets_meet" 3 3 F_lets_meet) (g_lets_pass : GF P w K mg base cls "lets_pass" 3 3 F_lets_pass) {f : Addr} {fd : FuncData} (F : FnQ K "meeting_kinds" "meeting_kinds" (top 36) f fd) : FnOk P w K mg base (L2.CX P w) 4 f fd ["book", "cell"] (spF K cls 2 F_meeting_kinds) :=
  fn_F F sc_meeting_kinds rfl (fun cdv A outer s H E hr => by
      have hu := hr.units
      have nd := (sc_meeting_kinds).nd
      have tk := takes_of (X := cxOf (L2.CX P w) P w K mg base ["book", "cell", "kinds", "kind"] "meeting_kinds" (defScope (top 36)) f cdv A outer s H E) (E := E) rfl rfl rfl rfl
      have pas := passes_of (X := cxOf (L2.CX P w) P w K mg base ["book", "cell", "kinds", "kind"] "meeting_kinds" (defScope (top 36)) f cdv A outer s H E) rfl
      exact ⟨_, (fss_cons (fs_if (ft_eq hu (fe_ix hu (fe_name 1) fe_int) fe_str) (fss_one (fs_ret (fe_if (ft_val (fe_call g_lets_pass tk (hr.mono (by decide)) (fa_cons (fe_name 0) (fa_cons fe_str (fa_cons (fe_name 1) fa_nil))))) (fe_cell (fa_cons fe_str fa_nil)) (fe_cell fa_nil)))) fss_nil) (fss_cons (fs_set 2 nd (fe_if (ft_eq hu (fe_ix hu (fe_name 1) fe_int) fe_int) (fe_gobj (d := K_KINDS) T.c_KINDS.1 T.c_KINDS.2) (fe_tup (fa_cons fe_str (fa_cons fe_str fa_nil))))) (fss_one (fs_ret (fe_lcC rfl nd (fi_seq (fe_name 2)) (blkOk_by (own := [("kind", 3)]) rfl) (fun _ _ _ _ _ => (fg_name 3 nd)) (fun _ _ _ _ _ => (fts_one (ft_val (fe_call g_lets_meet tkW0 (hr.mono (by decide)) (fa_cons (fe_name 0) (fa_cons (fe_name 3) (fa_cons (fe_name 1) fa_nil))))))) (fun _ _ _ _ _ => (fe_name 3)) (by decide))))))⟩)
theorem gf_meeting_kinds (T : Tx K mg cls) (g_lets_meet : GF P w K mg base cls "lets_meet" 3 3 F_lets_meet) (g_lets_pass : GF P w K mg base cls "lets_pass" 3 3 F_lets_pass) {f : Addr} {fd : FuncData} (F : FnQ K "meeting_kinds" "meeting_kinds" (top 36) f fd) (hm : mg "meeting_kinds" = some (.ref f)) : GF P w K mg base cls "meeting_kinds" 4 2 F_meeting_kinds :=
  ⟨⟨f, fd, ["book", "cell"], ok_meeting_kinds T g_lets_meet g_lets_pass F, hm, F.kp, (F.bindsN fun _ _ _ _ _ _ us hl => match us, hl with | [_, _], _ => rfl)⟩, bodyF_st _ _ _⟩
theorem sc_law : FnScope ["_law_script", "_law_bag_here", "_law_parts_here", "_law_book", "_law_turn", "_law_cell_here"] ["_law_script"] (defScope (top 52)) := ⟨rfl, rfl, rfl, by decide +kernel, rfl, by decide +kernel, by decide +kernel⟩
theorem ok_law (T : Tx K mg cls) (g__law_bag : GF P w K mg base cls "_law_bag" 1 1 F__law_bag) (g__law_cell : GF P w K mg base cls "_law_cell" 2 2 F__law_cell) (g__law_made : GF P w K mg base cls "_law_made" 7 1 F__law_made) (g__law_meeting : GF P w K mg base cls "_law_meeting" 4 2 F__law_meeting) (g__law_parts : GF P w K mg base cls "_law_parts" 3 2 F__law_parts) (g__law_same : GF P w K mg base cls "_law_same" 12 2 F__law_same) (g_meeting_kinds : GF P w K mg base cls "meeting_kinds" 4 2 F_meeting_kinds) {f : Addr} {fd : FuncData} (F : FnQ K "law" "law" (top 52) f fd) : FnOk P w K mg base (L2.CX P w) 13 f fd ["_law_script"] (spF K cls 1 F_law) :=
  fn_F F sc_law rfl (fun cdv A outer s H E hr => by
      have hu := hr.units
      have nd := (sc_law).nd
      have tk := takes_of (X := cxOf (L2.CX P w) P w K mg base ["_law_script", "_law_bag_here", "_law_parts_here", "_law_book", "_law_turn", "_law_cell_here"] "law" (defScope (top 52)) f cdv A outer s H E) (E := E) rfl rfl rfl rfl
      have pas := passes_of (X := cxOf (L2.CX P w) P w K mg base ["_law_script", "_law_bag_here", "_law_parts_here", "_law_book", "_law_turn", "_law_cell_here"] "law" (defScope (top 52)) f cdv A outer s H E) rfl
      exact ⟨_, (fss_cons (fs_set 1 nd (fe_call g__law_bag tk (hr.mono (by decide)) (fa_cons (fe_name 0) fa_nil))) (fss_cons (fs_set 2 nd (fe_call g__law_parts tk (hr.mono (by decide)) (fa_cons (fe_name 1) (fa_cons fe_int fa_nil)))) (fss_cons (fs_set 3 nd (fe_call g__law_made tk (hr.mono (by decide)) (fa_cons (fe_name 2) fa_nil))) (fss_cons (fs_for pas rfl (fi_range1 T.b_range (fa_cons fe_int fa_nil)) (fg_name 4 nd) (fss_cons (fs_set 5 nd (fe_call g__law_cell tk (hr.mono (by decide)) (fa_cons (fe_name 1) (fa_cons (fe_name 2) fa_nil)))) (fss_cons (fs_if (ft_not (ft_val (fe_call g__law_same tk (hr.mono (by decide)) (fa_cons (fe_lst (fa_cons (fe_stay (fe_call g_meeting_kinds tk (hr.mono (by decide)) (fa_cons (fe_name 3) (fa_cons (fe_name 5) fa_nil)))) fa_nil)) (fa_cons (fe_lst (fa_cons (fe_call g__law_meeting tk (hr.mono (by decide)) (fa_cons (fe_name 2) (fa_cons (fe_name 5) fa_nil))) fa_nil)) fa_nil))))) (fss_one (fs_ret fe_bl)) fss_nil) (fss_one (fs_expr (fe_appC (fe_call g_meeting_kinds tk (hr.mono (by decide)) (fa_cons (fe_name 3) (fa_cons (fe_name 5) fa_nil))) fe_str)))))) (fss_one (fs_ret fe_bl))))))⟩)
theorem gf_law (T : Tx K mg cls) (g__law_bag : GF P w K mg base cls "_law_bag" 1 1 F__law_bag) (g__law_cell : GF P w K mg base cls "_law_cell" 2 2 F__law_cell) (g__law_made : GF P w K mg base cls "_law_made" 7 1 F__law_made) (g__law_meeting : GF P w K mg base cls "_law_meeting" 4 2 F__law_meeting) (g__law_parts : GF P w K mg base cls "_law_parts" 3 2 F__law_parts) (g__law_same : GF P w K mg base cls "_law_same" 12 2 F__law_same) (g_meeting_kinds : GF P w K mg base cls "meeting_kinds" 4 2 F_meeting_kinds) {f : Addr} {fd : FuncData} (F : FnQ K "law" "law" (top 52) f fd) (hm : mg "law" = some (.ref f)) : GF P w K mg base cls "law" 13 1 F_law :=
  ⟨⟨f, fd, ["_law_script"], ok_law T g__law_bag g__law_cell g__law_made g__law_meeting g__law_parts g__law_same g_meeting_kinds F, hm, F.kp, (F.bindsN fun _ _ _ _ _ _ us hl => match us, hl with | [_], _ => rfl)⟩, bodyF_st _ _ _⟩
end
end FL

/-! FLW: weakest preconditions of the functions on data: what a law's function must come to, step by step, by simp. -/
namespace FL
open PySem PySem.Spec PyProof.Rows L2 FR
def wR {α : Type} (r : Res α) (Q : α → G → Prop) (X : Exn → G → Prop) : Prop := match r with
  | .ok a g => Q a g
  | .exc x g => X x g
  | .stuck => False
theorem ite_f {p : Prop} [Decidable p] {A : Prop} : (if p then A else False) = (p ∧ A) := by
  by_cases h : p
  · rw [if_pos h]; exact (true_and A).symm.trans (by rw [eq_true h])
  · rw [if_neg h]; exact (false_and A).symm.trans (by rw [eq_false h])
structure Es where
  N : Env → G → Prop
  R : D → G → Prop
  B : Env → G → Prop
  C : Env → G → Prop
  X : Exn → Env → G → Prop
def wS (r : SRes) (E : Es) : Prop := match r with
  | .next e g => E.N e g
  | .ret d g => E.R d g
  | .brk e g => E.B e g
  | .cnt e g => E.C e g
  | .exc x e g => E.X x e g
  | .stuck => False
def wO (o : Option Env) (Q : Env → Prop) : Prop := match o with
  | some e => Q e
  | none => False
section
variable {α β : Type} {r : Res α} {Q : β → G → Prop} {Qa : α → G → Prop} {Qd : D → G → Prop} {Qb : Bool → G → Prop} {Ql : List D → G → Prop} {X : Exn → G → Prop} {E : Es} {env : Env} {g : G}
theorem wR.mono {Q Q' : α → G → Prop} (h : wR r Q X) (hq : ∀ a g, Q a g → Q' a g) : wR r Q' X := by
  cases r <;> first | exact hq _ _ h | exact h
theorem wR.mono2 {Q Q' : α → G → Prop} {X X' : Exn → G → Prop} (h : wR r Q X) (hq : ∀ a g, Q a g → Q' a g) (hx : ∀ x g, X x g → X' x g) : wR r Q' X' := by
  cases r <;> first | exact hq _ _ h | exact hx _ _ h | exact h
theorem wR_ok {a : α} : wR (.ok a g) Qa X = Qa a g := rfl
theorem wR_stuck : wR (.stuck : Res α) Qa X = False := rfl
theorem wR_exc {x : Exn} : wR (.exc x g : Res α) Qa X = X x g := rfl
theorem wR_bind {k : α → G → Res β} : wR (r.bind k) Q X = wR r (fun a g => wR (k a g) Q X) X := by cases r <;> rfl
theorem wR_var {i : Nat} : wR (fVar i env g) Qd X = match env[i]? with | some (.val d) => Qd d g | _ => False := by
  unfold fVar
  cases env[i]? with
  | none => rfl
  | some s => cases s <;> rfl
theorem wR_c {d : D} : wR (fC d env g) Qd X = Qd d g := rfl
theorem wR_1 {op : D → G → Res D} {fa : Env → G → Res D} : wR (f1 op fa env g) Qd X = wR (fa env g) (fun a g => wR (op a g) Qd X) X := wR_bind
theorem wR_2 {op : D → D → G → Res D} {fa fb : Env → G → Res D} : wR (f2 op fa fb env g) Qd X = wR (fa env g) (fun a g => wR (fb env g) (fun b g => wR (op a b g) Qd X) X) X := by
  unfold f2
  rw [wR_bind]
  simp only [wR_bind]
theorem wR_nilA : wR (fNilA env g) Ql X = Ql [] g := rfl
theorem wR_consA {fa : Env → G → Res D} {fr : Env → G → Res (List D)} : wR (fConsA fa fr env g) Ql X = wR (fa env g) (fun a g => wR (fr env g) (fun r g => Ql (a :: r) g) X) X := by
  unfold fConsA
  simp only [wR_bind, wR_ok]
theorem wR_ite {p : Prop} [Decidable p] {r1 r2 : Res α} : wR (if p then r1 else r2) Qa X = if p then wR r1 Qa X else wR r2 Qa X := by split <;> rfl
theorem wR_tup {fa : Env → G → Res (List D)} : wR (fTup fa env g) Qd X = wR (fa env g) (fun ds g => ds.length ≤ sizeLine ∧ Qd (.tup ds) g) X := by
  unfold fTup
  simp only [wR_bind, wR_ite, wR_ok, wR_stuck]
  simp only [ite_f]
theorem wR_lst {fa : Env → G → Res (List D)} : wR (fLst fa env g) Qd X = wR (fa env g) (fun ds g => ds.length ≤ sizeLine ∧ Qd (.lst ds) g) X := by
  unfold fLst
  simp only [wR_bind, wR_ite, wR_ok, wR_stuck]
  simp only [ite_f]
theorem wR_cellL {fa : Env → G → Res (List D)} : wR (fCellL fa env g) Qd X = wR (fa env g) (fun ds g => ds.length ≤ sizeLine ∧ Qd (.ref g.length) (g ++ [.lst ds])) X := by
  unfold fCellL
  simp only [wR_bind, wR_ite, wR_ok, wR_stuck]
  simp only [ite_f]
theorem wR_asB {b : Bool} : wR (asB (.bl b) g) Qb X = Qb b g := rfl
theorem wR_test {fa : Env → G → Res D} : wR (fTest fa env g) Qb X = wR (fa env g) (fun d g => wR (asB d g) Qb X) X := wR_bind
theorem wR_andT {fa fb : Env → G → Res Bool} : wR (fAndT fa fb env g) Qb X = wR (fa env g) (fun a g => if a = true then wR (fb env g) Qb X else Qb false g) X := by
  unfold fAndT
  simp only [wR_bind, wR_ite, wR_ok]
theorem wR_orT {fa fb : Env → G → Res Bool} : wR (fOrT fa fb env g) Qb X = wR (fa env g) (fun a g => if a = true then Qb true g else wR (fb env g) Qb X) X := by
  unfold fOrT
  simp only [wR_bind, wR_ite, wR_ok]
theorem wR_notT {fa : Env → G → Res Bool} : wR (fNotT fa env g) Qb X = wR (fa env g) (fun a g => Qb (!a) g) X := by
  unfold fNotT
  simp only [wR_bind, wR_ok]
/-- a bool behind a value -/
def onB (d : D) (Q : Bool → Prop) : Prop := match d with
  | .bl b => Q b
  | _ => False
theorem onB_bl {b : Bool} {Q : Bool → Prop} : onB (.bl b) Q = Q b := rfl
theorem wR_andV {fa fb : Env → G → Res D} : wR (fAndV fa fb env g) Qd X = wR (fa env g) (fun a g => onB a fun b => if b = true then wR (fb env g) Qd X else Qd (.bl false) g) X := by
  unfold fAndV
  simp only [wR_bind]
  congr 1; funext a g
  cases a <;> first | rfl | skip
  rename_i b; cases b <;> rfl
theorem wR_orV {fa fb : Env → G → Res D} : wR (fOrV fa fb env g) Qd X = wR (fa env g) (fun a g => onB a fun b => if b = true then Qd (.bl true) g else wR (fb env g) Qd X) X := by
  unfold fOrV
  simp only [wR_bind]
  congr 1; funext a g
  cases a <;> first | rfl | skip
  rename_i b; cases b <;> rfl
theorem wR_notV {fa : Env → G → Res D} : wR (fNotV fa env g) Qd X = wR (fa env g) (fun a g => onB a fun b => Qd (.bl (!b)) g) X := by
  unfold fNotV
  simp only [wR_bind]
  congr 1; funext a g
  cases a <;> rfl
theorem wR_if {fc : Env → G → Res Bool} {fa fb : Env → G → Res D} : wR (fIf fc fa fb env g) Qd X = wR (fc env g) (fun c g => if c = true then wR (fa env g) Qd X else wR (fb env g) Qd X) X := by
  unfold fIf
  simp only [wR_bind, wR_ite]
theorem wR_call {F : List D → G → Res D} {fa : Env → G → Res (List D)} : wR (fCall F fa env g) Qd X = wR (fa env g) (fun ds g => wR (F ds g) Qd X) X := wR_bind
theorem wR_body {p n : Nat} {fb : Env → G → SRes} {ds : List D} : wR (bodyF p n fb ds g) Qd X = (ds.length = p ∧ wS (fb (startE n ds) g) ⟨fun _ g => Qd .non g, Qd, fun _ _ => False, fun _ _ => False, fun x _ g => X x g⟩) := by
  unfold bodyF
  by_cases h : ds.length = p
  · simp only [h, if_true, true_and]
    cases fb (startE n ds) g <;> rfl
  · simp only [h, if_false, false_and]; rfl
theorem wR_chain {op op' : D → D → G → Res D} {fa fb fc : Env → G → Res D} : wR (fChain op op' fa fb fc env g) Qd X = wR (fa env g) (fun a g => wR (fb env g) (fun b g => wR (op a b g) (fun z g => onB z fun t => if t = true then wR (fc env g) (fun c g => wR (op' b c g) Qd X) X else Qd (.bl false) g) X) X) X := by
  unfold fChain
  simp only [wR_bind]
  congr 1; funext a g; congr 1; funext b g; congr 1; funext z g
  cases z <;> first | rfl | skip
  rename_i t; cases t <;> simp [onB, wR_bind, wR_ok]
theorem wR_slice {fa : Env → G → Res D} {fl fh : Env → G → Res (Option Int)} : wR (fSlice fa fl fh env g) Qd X = wR (fa env g) (fun a g => wR (fl env g) (fun lo g => wR (fh env g) (fun hi g => wR (dSl a lo hi g) Qd X) X) X) X := by
  unfold fSlice
  simp only [wR_bind]
theorem wR_noPart {Qo : Option Int → G → Prop} : wR (fNoPart env g) Qo X = Qo none g := rfl
theorem wR_part {Qo : Option Int → G → Prop} {fa : Env → G → Res D} : wR (fPart fa env g) Qo X = wR (fa env g) (fun d g => match d with | .int i => Qo (some i) g | _ => False) X := by
  unfold fPart
  simp only [wR_bind]
  congr 1; funext d g
  cases d <;> rfl
theorem wR_okO {o : Option α} : wR (okO o g) Qa X = match o with | some a => Qa a g | none => False := by cases o <;> rfl
/-! statements -/
theorem wS_next : wS (.next env g) E = E.N env g := rfl
theorem wS_fNext : wS (fNext env g) E = E.N env g := rfl
theorem wS_seq {a b : Env → G → SRes} : wS (fSeq a b env g) E = wS (a env g) { E with N := fun e g => wS (b e g) E } := by
  unfold fSeq
  cases a env g <;> rfl
theorem wS_eS {r : Res D} {k : D → G → SRes} : wS (eS env r k) E = wR r (fun d g => wS (k d g) E) (fun x g => E.X x env g) := by cases r <;> rfl
theorem wS_ret {fa : Env → G → Res D} : wS (fRet fa env g) E = wR (fa env g) E.R (fun x g => E.X x env g) := by
  unfold fRet
  rw [wS_eS]; rfl
theorem wS_retN : wS (fRetN env g) E = E.R .non g := rfl
theorem wS_expr {fa : Env → G → Res D} : wS (fExpr fa env g) E = wR (fa env g) (fun _ g => E.N env g) (fun x g => E.X x env g) := by
  unfold fExpr
  rw [wS_eS]; rfl
theorem wS_asg {fa : Env → G → Res D} {ft : D → G → Env → Option Env} : wS (fAsg fa ft env g) E = wR (fa env g) (fun d g => wO (ft d g env) fun e => E.N e g) (fun x g => E.X x env g) := by
  unfold fAsg
  rw [wS_eS]
  congr 1; funext d g
  unfold tgS
  cases ft d g env <;> rfl
theorem wO_set {i : Nat} {d : D} {Q : Env → Prop} : wO (gSet i d g env) Q = match env[i]? with | some _ => Q (env.set i (.val d)) | none => False := by
  unfold gSet
  cases env[i]? <;> rfl
theorem wO_bind {o : Option Env} {k : Env → Option Env} {Q : Env → Prop} : wO (o.bind k) Q = wO o fun e => wO (k e) Q := by cases o <;> rfl
theorem wO_some {e : Env} {Q : Env → Prop} : wO (some e) Q = Q e := rfl
theorem wO_nils {Q : Env → Prop} : wO (gNils [] g env) Q = Q env := rfl
theorem wO_conss {f : D → G → Env → Option Env} {r : List D → G → Env → Option Env} {d : D} {ds : List D} {Q : Env → Prop} : wO (gConss f r (d :: ds) g env) Q = wO (f d g env) fun e => wO (r ds g e) Q := by
  unfold gConss
  exact wO_bind
theorem wO_tup {f : List D → G → Env → Option Env} {n : Nat} {ds : List D} {Q : Env → Prop} : wO (gTupF f n (.tup ds) g env) Q = (ds.length = n ∧ wO (f ds g env) Q) := by
  unfold gTupF
  by_cases h : ds.length = n
  · simp only [h, if_true, true_and]
  · simp only [h, if_false, false_and]; rfl
theorem wS_if {fc : Env → G → Res Bool} {f1 f2 : Env → G → SRes} : wS (fIfS fc f1 f2 env g) E = wR (fc env g) (fun c g => if c = true then wS (f1 env g) E else wS (f2 env g) E) (fun x g => E.X x env g) := by
  unfold fIfS
  cases fc env g with
  | ok c g1 => cases c <;> rfl
  | exc x g1 => rfl
  | stuck => rfl
theorem wS_for {fi : Env → G → Res (List D)} {ft : D → G → Env → Option Env} {fb : Env → G → SRes} : wS (fFor fi ft fb env g) E = wR (fi env g) (fun ds g => wS (loopF ft fb ds env g) E) (fun x g => E.X x env g) := by
  unfold fFor
  cases fi env g <;> rfl
theorem wS_loop_nil {ft : D → G → Env → Option Env} {fb : Env → G → SRes} : wS (loopF ft fb [] env g) E = E.N env g := rfl
theorem wS_loop_cons {ft : D → G → Env → Option Env} {fb : Env → G → SRes} {d : D} {ds : List D} : wS (loopF ft fb (d :: ds) env g) E = wO (ft d g env) fun e => wS (fb e g) ⟨fun e g => wS (loopF ft fb ds e g) E, E.R, E.N, fun e g => wS (loopF ft fb ds e g) E, E.X⟩ := by
  show wS (match ft d g env with | none => .stuck | some env1 => _) E = _
  cases ft d g env with
  | none => rfl
  | some e =>
    show wS (match fb e g with | .next e g1 => _ | .cnt e g1 => _ | .brk e g1 => _ | .ret d g1 => _ | .exc x e g1 => _ | .stuck => _) E = wS (fb e g) _
    cases fb e g <;> rfl
theorem wS_store {fe fo fi : Env → G → Res D} : wS (fStore fe fo fi env g) E = wR (fe env g) (fun d g => wR (fo env g) (fun o g => wR (fi env g) (fun i g => match setCell g o i d with | some g4 => E.N env g4 | none => False) (fun x g => E.X x env g)) (fun x g => E.X x env g)) (fun x g => E.X x env g) := by
  unfold fStore
  simp only [wS_eS]
  congr 1; funext d g; congr 1; funext o g; congr 1; funext i g
  cases setCell g o i d <;> rfl
theorem wS_par {i j : Nat} {fa : Env → G → Res (List D)} : wS (fPar i j fa env g) E = wR (fa env g) (fun ds g => match ds with | [a, b] => i < env.length ∧ j < env.length ∧ E.N ((env.set i (.val a)).set j (.val b)) g | _ => False) (fun x g => E.X x env g) := by
  unfold fPar
  cases fa env g with
  | ok ds g1 =>
    match ds with
    | [a, b] =>
      show wS (if _ then _ else _) E = (i < env.length ∧ j < env.length ∧ _)
      by_cases h : i < env.length ∧ j < env.length
      · rw [if_pos h]; simp only [h.1, h.2, true_and]; rfl
      · rw [if_neg h]
        have : (i < env.length ∧ j < env.length ∧ E.N ((env.set i (.val a)).set j (.val b)) g1) = False := by
          apply propext; constructor
          · exact fun q => h ⟨q.1, q.2.1⟩
          · exact False.elim
        rw [this]; rfl
    | [] => rfl
    | [_] => rfl
    | _ :: _ :: _ :: _ => rfl
  | exc x g1 => rfl
  | stuck => rfl
/-- a loop by an invariant on what is left -/
theorem wS_loop {ft : D → G → Env → Option Env} {fb : Env → G → SRes} (I : List D → Env → G → Prop) : ∀ (ds : List D) (env : Env) (g : G), I ds env g →
    (∀ d ds env g, I (d :: ds) env g → wO (ft d g env) fun e => wS (fb e g) ⟨fun e g => I ds e g, E.R, E.N, fun e g => I ds e g, E.X⟩) → (∀ env g, I [] env g → E.N env g) → wS (loopF ft fb ds env g) E
  | [], env, g, h0, _, hd => hd env g h0
  | d :: ds, env, g, h0, hs, hd => by
    rw [wS_loop_cons]
    have h := hs d ds env g h0
    cases e : ft d g env with
    | none => rw [e] at h; exact h
    | some e1 =>
      rw [e] at h
      have h' : wS (fb e1 g) ⟨fun e g => I ds e g, E.R, E.N, fun e g => I ds e g, E.X⟩ := h
      show wS (fb e1 g) _
      cases e2 : fb e1 g <;> rw [e2] at h' <;> first | exact h' | exact wS_loop I ds _ _ h' hs hd
/-! what is walked -/
def on1 (ds : List D) (Q : D → Prop) : Prop := match ds with
  | [a] => Q a
  | _ => False
def on2 (ds : List D) (Q : D → D → Prop) : Prop := match ds with
  | [a, b] => Q a b
  | _ => False
def onI (d : D) (Q : Int → Prop) : Prop := match d with
  | .int i => Q i
  | _ => False
theorem on1_e {a : D} {Q : D → Prop} : on1 [a] Q = Q a := rfl
theorem on2_e {a b : D} {Q : D → D → Prop} : on2 [a, b] Q = Q a b := rfl
theorem onI_e {i : Int} {Q : Int → Prop} : onI (.int i) Q = Q i := rfl
theorem wR_range1 {fa : Env → G → Res (List D)} : wR (fRange1 fa env g) Ql X = wR (fa env g) (fun ds g => on1 ds fun a => onI a fun j => (-(2 ^ 62) ≤ j ∧ j < 2 ^ 62) ∧ Ql (rangeD 0 j.toNat) g) X := by
  unfold fRange1
  rw [wR_bind]
  congr 1; funext ds g
  match ds with
  | [.int j] =>
    show wR (if _ then _ else _) _ _ = ((-(2 ^ 62) ≤ j ∧ j < 2 ^ 62) ∧ _)
    rw [wR_ite, wR_ok, wR_stuck, ite_f, propext inR_iff]
  | [] => rfl
  | a :: _ :: _ => cases a <;> rfl
  | [.non] => rfl
  | [.bl _] => rfl
  | [.str _] => rfl
  | [.tup _] => rfl
  | [.lst _] => rfl
  | [.scr _] => rfl
  | [.dct _] => rfl
  | [.ins _ _] => rfl
  | [.ref _] => rfl
theorem wR_range2 {fa : Env → G → Res (List D)} : wR (fRange2 fa env g) Ql X = wR (fa env g) (fun ds g => on2 ds fun a b => onI a fun i => onI b fun j => (-(2 ^ 62) ≤ i ∧ i < 2 ^ 62 ∧ -(2 ^ 62) ≤ j ∧ j < 2 ^ 62) ∧ Ql (rangeD i (j - i).toNat) g) X := by
  unfold fRange2
  rw [wR_bind]
  congr 1; funext ds g
  match ds with
  | [a, b] =>
    cases a <;> first | rfl | skip
    cases b <;> first | rfl | skip
    rename_i i j
    show wR (if _ then _ else _) _ _ = ((-(2 ^ 62) ≤ i ∧ i < 2 ^ 62 ∧ -(2 ^ 62) ≤ j ∧ j < 2 ^ 62) ∧ _)
    rw [wR_ite, wR_ok, wR_stuck, ite_f, propext inR_iff, propext inR_iff]
    simp only [and_assoc]
  | [] => rfl
  | [.int _] => rfl
  | [.non] => rfl
  | [.bl _] => rfl
  | [.str _] => rfl
  | [.tup _] => rfl
  | [.lst _] => rfl
  | [.scr _] => rfl
  | [.dct _] => rfl
  | [.ins _ _] => rfl
  | [.ref _] => rfl
  | .int _ :: b :: _ :: _ => cases b <;> rfl
  | .non :: b :: _ :: _ => rfl
  | .bl _ :: b :: _ :: _ => rfl
  | .str _ :: b :: _ :: _ => rfl
  | .tup _ :: b :: _ :: _ => rfl
  | .lst _ :: b :: _ :: _ => rfl
  | .scr _ :: b :: _ :: _ => rfl
  | .dct _ :: b :: _ :: _ => rfl
  | .ins _ _ :: b :: _ :: _ => rfl
  | .ref _ :: b :: _ :: _ => rfl
/-- what is walked, by its items -/
def onSeq (o : Option (List D)) (Q : List D → Prop) : Prop := match o with
  | some xs => Q xs
  | none => False
theorem onSeq_some {xs : List D} {Q : List D → Prop} : onSeq (some xs) Q = Q xs := rfl
theorem wR_seqI {fa : Env → G → Res D} : wR (fSeqI fa env g) Ql X = wR (fa env g) (fun d g => onSeq (seqF d) fun xs => Ql xs g) X := by
  unfold fSeqI
  simp only [wR_bind]
  congr 1; funext d g
  cases d <;> rfl
theorem wR_zip {fa : Env → G → Res (List D)} : wR (fZip fa env g) Ql X = wR (fa env g) (fun ds g => on2 ds fun a b => onSeq (seqF a) fun xs => onSeq (seqF b) fun ys => Ql (zipD xs ys) g) X := by
  unfold fZip
  rw [wR_bind]
  congr 1; funext ds g
  match ds with
  | [a, b] =>
    show wR (match seqF a, seqF b with | some xs, some ys => .ok (zipD xs ys) g | _, _ => .stuck) Ql X = onSeq (seqF a) fun xs => onSeq (seqF b) fun ys => Ql (zipD xs ys) g
    cases seqF a with
    | none => rfl
    | some xs => cases seqF b <;> rfl
  | [] => rfl
  | [_] => rfl
  | _ :: _ :: _ :: _ => rfl
theorem wR_enum {fa : Env → G → Res (List D)} : wR (fEnum fa env g) Ql X = wR (fa env g) (fun ds g => on1 ds fun a => onSeq (seqF a) fun xs => Ql (enumD 0 xs) g) X := by
  unfold fEnum
  rw [wR_bind]
  congr 1; funext ds g
  match ds with
  | [a] =>
    show wR (match seqF a with | some xs => .ok (enumD 0 xs) g | none => .stuck) Ql X = onSeq (seqF a) fun xs => Ql (enumD 0 xs) g
    cases seqF a <;> rfl
  | [] => rfl
  | _ :: _ :: _ => rfl
/-! comprehensions -/
theorem wR_lc {fi : Env → G → Res (List D)} {ft : D → G → Env → Option Env} {fif : Env → G → Res Bool} {fe : Env → G → Res D} {vs : List Nat} : wR (fLc fi ft fif fe vs env g) Qd X = wR (fi env g) (fun ds g => ds.length ≤ sizeLine ∧ wR (compF ft fif fe (wipeE env vs) ds g) (fun ys g => Qd (.lst ys) g) (fun _ _ => False)) X := by
  unfold fLc
  simp only [wR_bind]
  congr 1; funext ds g
  split
  · rename_i h
    simp only [h, true_and]
    cases compF ft fif fe (wipeE env vs) ds g <;> rfl
  · rename_i h
    simp only [h, false_and]; rfl
theorem wR_yes : wR (fYes env g) Qb X = Qb true g := rfl
/-- arithmetic on ints -/
theorem wR_dI {f : Int → Int → Int} {i j : Int} : wR (dI f (.int i) (.int j) g) Qd X = Qd (.int (f i j)) g := rfl
theorem wR_sub {i j : Int} : wR (dSub (.int i) (.int j) g) Qd X = Qd (.int (i - j)) g := rfl
theorem wR_add {i j : Int} : wR (dAdd (.int i) (.int j) g) Qd X = Qd (.int (i + j)) g := rfl
theorem wR_mul {i j : Int} : wR (dMul (.int i) (.int j) g) Qd X = (((-(2 ^ 64) < i ∧ i < 2 ^ 64) ∨ (-(2 ^ 64) < j ∧ j < 2 ^ 64)) ∧ Qd (.int (i * j)) g) := by
  show wR (if _ then _ else _) _ _ = _
  unfold cMul
  rw [wR_ite, wR_ok, wR_stuck]
  simp only [decide_eq_true_eq, ite_f]
theorem wR_mod {i j : Int} : wR (dMod (.int i) (.int j) g) Qd X = (0 < j ∧ Qd (.int (i % j)) g) := by
  show wR (if _ then _ else _) _ _ = _
  rw [wR_ite, wR_ok, wR_stuck]
  simp only [decide_eq_true_eq, ite_f]
theorem wR_div {i j : Int} : wR (dDiv (.int i) (.int j) g) Qd X = ((0 < j ∧ j < 1073741824) ∧ Qd (.int (i / j)) g) := by
  show wR (if _ then _ else _) _ _ = _
  rw [wR_ite, wR_ok, wR_stuck]
  simp only [decide_eq_true_eq, ite_f]
theorem wR_pow {i j : Int} : wR (dPow (.int i) (.int j) g) Qd X = ((0 ≤ j ∧ j ≤ 1000000 ∧ i.natAbs < 2 ^ 64) ∧ Qd (.int (i ^ j.toNat)) g) := by
  show wR (if _ then _ else _) _ _ = _
  rw [wR_ite, wR_ok, wR_stuck]
  simp only [decide_eq_true_eq, ite_f]
theorem wR_neg {i : Int} : wR (dNeg (.int i) g) Qd X = Qd (.int (-i)) g := rfl
theorem wR_lt {i j : Int} : wR (dLt (.int i) (.int j) g) Qd X = Qd (.bl (decide (i < j))) g := rfl
theorem wR_le {i j : Int} : wR (dLe (.int i) (.int j) g) Qd X = Qd (.bl (decide (i ≤ j))) g := rfl
theorem wR_gt {i j : Int} : wR (dGt (.int i) (.int j) g) Qd X = Qd (.bl (decide (j < i))) g := rfl
theorem wR_ge {i j : Int} : wR (dGe (.int i) (.int j) g) Qd X = Qd (.bl (decide (j ≤ i))) g := rfl
theorem wR_abs {i : Int} : wR (dAbs [.int i] g) Qd X = Qd (.int (if i < 0 then -i else i)) g := rfl
theorem wR_intC {i : Int} : wR (dIntC [.int i] g) Qd X = Qd (.int i) g := rfl
theorem wR_eqI {i j : Int} {neg : Bool} : wR (dEq neg (.int i) (.int j) g) Qd X = Qd (.bl (if neg then !decide (i = j) else decide (i = j))) g := rfl
theorem wR_eqS {i j : Str} {neg : Bool} : wR (dEq neg (.str i) (.str j) g) Qd X = Qd (.bl (if neg then !decide (i = j) else decide (i = j))) g := rfl
theorem wR_eqB {i j : Bool} {neg : Bool} : wR (dEq neg (.bl i) (.bl j) g) Qd X = Qd (.bl (if neg then !decide (i = j) else decide (i = j))) g := rfl
theorem wR_isN {d : D} {neg : Bool} : wR (dIsN neg d g) Qd X = Qd (.bl (if neg then !isN d else isN d)) g := rfl
theorem wR_lenL {xs : List D} : wR (dLen [.lst xs] g) Qd X = Qd (.int xs.length) g := rfl
theorem wR_lenT {xs : List D} : wR (dLen [.tup xs] g) Qd X = Qd (.int xs.length) g := rfl
theorem wR_listL {xs : List D} : wR (dListC [.lst xs] g) Qd X = Qd (.lst xs) g := rfl
theorem wR_listT {xs : List D} : wR (dListC [.tup xs] g) Qd X = Qd (.lst xs) g := rfl
theorem wR_tupL {xs : List D} : wR (dTupC [.lst xs] g) Qd X = Qd (.tup xs) g := rfl
theorem wR_tupT {xs : List D} : wR (dTupC [.tup xs] g) Qd X = Qd (.tup xs) g := rfl
/-- something or nothing -/
def onO {α : Type} (o : Option α) (Q : α → Prop) : Prop := match o with
  | some a => Q a
  | none => False
theorem onO_some {a : α} {Q : α → Prop} : onO (some a) Q = Q a := rfl
theorem wR_ixL {xs : List D} {i : Int} : wR (dIx (.lst xs) (.int i) g) Qd X = onO (atI xs i) fun d => Qd d g := by
  show wR (okO (atI xs i) g) Qd X = _
  rw [wR_okO]; rfl
theorem wR_ixT {xs : List D} {i : Int} : wR (dIx (.tup xs) (.int i) g) Qd X = onO (atI xs i) fun d => Qd d g := by
  show wR (okO (atI xs i) g) Qd X = _
  rw [wR_okO]; rfl
theorem wR_ixR {xs : List D} {n : Nat} {i : Int} (e : g[n]? = some (.lst xs)) : wR (dIx (.ref n) (.int i) g) Qd X = onO (atI xs i) fun d => Qd d g := by
  unfold dIx seqD
  simp only [e]
  rw [wR_okO]; rfl
theorem atI_nat {α : Type} {xs : List α} {i : Nat} : atI xs (i : Int) = xs[i]? := by
  unfold atI ixN
  by_cases h : i < xs.length
  · simp [h]
  · simp [h]
theorem sl_tup {xs : List D} {lo hi : Option Int} : wR (dSl (.tup xs) lo hi g) Qd X = Qd (.tup (cutD xs lo hi)) g := rfl
theorem sl_lst {xs : List D} {lo hi : Option Int} : wR (dSl (.lst xs) lo hi g) Qd X = Qd (.lst (cutD xs lo hi)) g := rfl
theorem sl_scr {xs : List Int} {lo hi : Option Int} : wR (dSl (.scr xs) lo hi g) Qd X = Qd (.lst (cutD (xs.map D.int) lo hi)) g := rfl
end
end FL

/-! FLB: the laws' bag of draws -/
namespace FL
open PySem PySem.Spec PyProof.Rows L2 FR
def bagC (xs : List Int) (i b s n : Int) : Cell := .lst [.lst (xs.map D.int), .int i, .int b, .int s, .int n]
def BagC (c : Cell) : Prop := ∃ xs i b s n, c = bagC xs i b s n ∧ 0 ≤ i ∧ -(2 ^ 64) < s ∧ s < 2 ^ 64
def BagAt (g : G) (k : Nat) : Prop := ∃ c, g[k]? = some c ∧ BagC c
theorem setCell_lst {g : G} {n : Nat} {xs : List D} {i : Int} {d : D} (e : g[n]? = some (.lst xs)) : setCell g (.ref n) (.int i) d = (ixN xs.length i).map fun j => g.set n (.lst (xs.set j d)) := by
  unfold setCell
  simp only [e]
theorem BagAt.set {g : G} {k : Nat} {c : Cell} (h : BagAt g k) (hc : BagC c) : BagAt (g.set k c) k := by
  obtain ⟨c0, h1, _⟩ := h
  exact ⟨c, List.getElem?_set_self (List.getElem?_eq_some_iff.mp h1).1, hc⟩
/-- what a draw of a number below m does: it gives one, and it changes the bag alone -/
def PullS (F : List D → G → Res D) : Prop := ∀ (k : Nat) (m : Int) (g : G) (Q : D → G → Prop) (X : Exn → G → Prop), BagAt g k → 0 < m → m < 1073741824 →
  (∀ (r : Int) (c : Cell), BagC c → 0 ≤ r → r < m → Q (.int r) (g.set k c)) → wR (F [.ref k, .int m] g) Q X
def OfS (F : List D → G → Res D) : Prop := ∀ (k : Nat) (ds : List D) (g : G) (Q : D → G → Prop) (X : Exn → G → Prop), BagAt g k → 0 < ds.length → ds.length < 1073741824 →
  (∀ (d : D) (c : Cell), BagC c → d ∈ ds → Q d (g.set k c)) → wR (F [.ref k, .lst ds] g) Q X
theorem ixN_nat {n i : Nat} (h : i < n) : ixN n (i : Int) = some i := by
  unfold ixN
  simp [h]
theorem atI_map {xs : List Int} {i : Int} (h0 : 0 ≤ i) (h1 : i < xs.length) : ∃ x, atI (xs.map D.int) i = some (.int x) := by
  obtain ⟨n, rfl⟩ := Int.eq_ofNat_of_zero_le h0
  refine ⟨xs[n]'(by omega), ?_⟩
  show atI (xs.map D.int) ((n : Nat) : Int) = _
  rw [atI_nat]
  have : n < xs.length := by omega
  simp [this]
theorem i50 (a b c d e : D) : atI [a, b, c, d, e] 0 = some a := rfl
theorem i51 (a b c d e : D) : atI [a, b, c, d, e] 1 = some b := rfl
theorem i52 (a b c d e : D) : atI [a, b, c, d, e] 2 = some c := rfl
theorem i53 (a b c d e : D) : atI [a, b, c, d, e] 3 = some d := rfl
theorem i54 (a b c d e : D) : atI [a, b, c, d, e] 4 = some e := rfl
theorem j51 : ixN 5 1 = some 1 := rfl
theorem j52 : ixN 5 2 = some 2 := rfl
theorem j53 : ixN 5 3 = some 3 := rfl
theorem j54 : ixN 5 4 = some 4 := rfl
theorem mod_lo {a m : Int} (h : 0 < m) : 0 ≤ a % m := Int.emod_nonneg _ (Int.ne_of_gt h)
theorem mod_hi {a m : Int} (h : 0 < m) : a % m < m := Int.emod_lt_of_pos _ h
theorem sd_ok {a : Int} : -(2 ^ 64) < a % 2147483629 ∧ a % 2147483629 < 2 ^ 64 := by
  have h1 := @mod_lo a 2147483629 (by decide)
  have h2 := @mod_hi a 2147483629 (by decide)
  omega
end FL

/-! FLC: plain facts -/
namespace FL
open PySem PySem.Spec PyProof.Rows L2 FR
theorem compF_pure {ft : D → G → Env → Option Env} {fif : Env → G → Res Bool} {fe : Env → G → Res D} {env : Env} {g : G} (f : D → D) : ∀ ds : List D, (∀ d ∈ ds, ∃ e, ft d g env = some e ∧ fif e g = .ok true g ∧ fe e g = .ok (f d) g) → compF ft fif fe env ds g = .ok (ds.map f) g
  | [], _ => rfl
  | d :: ds, h => by
    obtain ⟨e, h1, h2, h3⟩ := h d (List.mem_cons_self ..)
    have h4 := compF_pure f ds fun x hx => h x (List.mem_cons_of_mem _ hx)
    simp only [compF, h1, h2, h3, h4, List.map_cons]
theorem bools_map (p : D → Bool) : ∀ ds : List D, bools (ds.map fun d => D.bl (p d)) = some (ds.map p)
  | [] => rfl
  | d :: ds => by simp only [List.map_cons, bools, bools_map p ds, Option.map_some]
theorem wR_eq {α : Type} {r : Res α} {a : α} {g : G} (h : wR r (fun x g' => x = a ∧ g' = g) fun _ _ => False) : r = .ok a g := by
  cases r with
  | ok x g' => obtain ⟨rfl, rfl⟩ := h; rfl
  | exc _ _ => exact h.elim
  | stuck => exact h.elim
theorem eq_wR {α : Type} {r : Res α} {a : α} {g : G} {Q : α → G → Prop} {X : Exn → G → Prop} (e : r = .ok a g) : wR r Q X = Q a g := by rw [e]; rfl
theorem wR_all {p : D → Bool} {ds : List D} {g : G} {Q : D → G → Prop} {X : Exn → G → Prop} : wR (dAll [.lst (ds.map fun d => D.bl (p d))] g) Q X = Q (.bl (ds.all p)) g := by
  unfold dAll
  simp only [bools_map, wR_ok]
  congr 2
  induction ds with
  | nil => rfl
  | cons a b ih => simp
theorem of_of {Pl Of : List D → G → Res D} (hp : PullS Pl) (h : ∀ k ds g Q X, wR (Of [.ref k, .lst ds] g) Q X = wR (Pl [.ref k, .int ds.length] g) (fun r g => wR (dIx (.lst ds) r g) Q X) X) : OfS Of := fun k ds g Q X hb h0 h1 hQ => by
  rw [h]
  refine hp k _ g _ X hb (by omega) (by omega) fun r c hc hr hr2 => ?_
  obtain ⟨n, rfl⟩ := Int.eq_ofNat_of_zero_le hr
  have hn : n < ds.length := by omega
  rw [wR_ixL]
  show onO (atI ds ((n : Nat) : Int)) _
  rw [atI_nat, List.getElem?_eq_getElem hn]
  exact hQ _ c hc (List.getElem_mem hn)
theorem seqF_tup {xs : List D} : seqF (.tup xs) = some xs := rfl
theorem seqF_lst {xs : List D} : seqF (.lst xs) = some xs := rfl
theorem seqF_scr {xs : List Int} : seqF (.scr xs) = some (xs.map D.int) := rfl
theorem sz0 : (0 ≤ sizeLine) = True := eq_true (by decide)
theorem sz1 : (1 ≤ sizeLine) = True := eq_true (by decide)
theorem sz2 : (2 ≤ sizeLine) = True := eq_true (by decide)
theorem sz3 : (3 ≤ sizeLine) = True := eq_true (by decide)
theorem sz4 : (4 ≤ sizeLine) = True := eq_true (by decide)
theorem sz5 : (5 ≤ sizeLine) = True := eq_true (by decide)
theorem sz6 : (6 ≤ sizeLine) = True := eq_true (by decide)
theorem sz7 : (7 ≤ sizeLine) = True := eq_true (by decide)
theorem sz8 : (8 ≤ sizeLine) = True := eq_true (by decide)
theorem sz9 : (9 ≤ sizeLine) = True := eq_true (by decide)
theorem sz10 : (10 ≤ sizeLine) = True := eq_true (by decide)
theorem sz11 : (11 ≤ sizeLine) = True := eq_true (by decide)
theorem sz12 : (12 ≤ sizeLine) = True := eq_true (by decide)
theorem sz13 : (13 ≤ sizeLine) = True := eq_true (by decide)
theorem sz14 : (14 ≤ sizeLine) = True := eq_true (by decide)
theorem sz15 : (15 ≤ sizeLine) = True := eq_true (by decide)
theorem sz16 : (16 ≤ sizeLine) = True := eq_true (by decide)
/-- the built-in type of what stays -/
def tyF : D → Option String
  | .non => some "NoneType"
  | .bl _ => some "bool"
  | .int _ => some "int"
  | .str _ => some "str"
  | .tup _ => some "tuple"
  | .lst _ => some "list"
  | .dct _ => some "dict"
  | _ => none
theorem wR_isi {ns : List String} {d : D} {t : String} {g : G} {Q : D → G → Prop} {X : Exn → G → Prop} (h : tyF d = some t) : wR (dIsi ns d g) Q X = Q (.bl (ns.any fun b => subT t b)) g := by
  unfold dIsi
  have : tyD g d = some t := by cases d <;> first | exact h | cases h
  rw [this]; rfl
theorem isi_non {ns : List String} {g : G} {Q : D → G → Prop} {X : Exn → G → Prop} : wR (dIsi ns .non g) Q X = Q (.bl (ns.any (subT "NoneType"))) g := rfl
theorem sub_non_int : subT "NoneType" "int" = false := by decide
theorem sub_non_bool : subT "NoneType" "bool" = false := by decide
theorem sub_non_str : subT "NoneType" "str" = false := by decide
theorem sub_non_tuple : subT "NoneType" "tuple" = false := by decide
theorem sub_non_list : subT "NoneType" "list" = false := by decide
theorem sub_non_dict : subT "NoneType" "dict" = false := by decide
theorem isi_bl {b : Bool} {ns : List String} {g : G} {Q : D → G → Prop} {X : Exn → G → Prop} : wR (dIsi ns (.bl b) g) Q X = Q (.bl (ns.any (subT "bool"))) g := rfl
theorem sub_bl_int : subT "bool" "int" = true := by decide
theorem sub_bl_bool : subT "bool" "bool" = true := by decide
theorem sub_bl_str : subT "bool" "str" = false := by decide
theorem sub_bl_tuple : subT "bool" "tuple" = false := by decide
theorem sub_bl_list : subT "bool" "list" = false := by decide
theorem sub_bl_dict : subT "bool" "dict" = false := by decide
theorem isi_int {b : Int} {ns : List String} {g : G} {Q : D → G → Prop} {X : Exn → G → Prop} : wR (dIsi ns (.int b) g) Q X = Q (.bl (ns.any (subT "int"))) g := rfl
theorem sub_int_int : subT "int" "int" = true := by decide
theorem sub_int_bool : subT "int" "bool" = false := by decide
theorem sub_int_str : subT "int" "str" = false := by decide
theorem sub_int_tuple : subT "int" "tuple" = false := by decide
theorem sub_int_list : subT "int" "list" = false := by decide
theorem sub_int_dict : subT "int" "dict" = false := by decide
theorem isi_str {b : Str} {ns : List String} {g : G} {Q : D → G → Prop} {X : Exn → G → Prop} : wR (dIsi ns (.str b) g) Q X = Q (.bl (ns.any (subT "str"))) g := rfl
theorem sub_str_int : subT "str" "int" = false := by decide
theorem sub_str_bool : subT "str" "bool" = false := by decide
theorem sub_str_str : subT "str" "str" = true := by decide
theorem sub_str_tuple : subT "str" "tuple" = false := by decide
theorem sub_str_list : subT "str" "list" = false := by decide
theorem sub_str_dict : subT "str" "dict" = false := by decide
theorem isi_tup {b : List D} {ns : List String} {g : G} {Q : D → G → Prop} {X : Exn → G → Prop} : wR (dIsi ns (.tup b) g) Q X = Q (.bl (ns.any (subT "tuple"))) g := rfl
theorem sub_tup_int : subT "tuple" "int" = false := by decide
theorem sub_tup_bool : subT "tuple" "bool" = false := by decide
theorem sub_tup_str : subT "tuple" "str" = false := by decide
theorem sub_tup_tuple : subT "tuple" "tuple" = true := by decide
theorem sub_tup_list : subT "tuple" "list" = false := by decide
theorem sub_tup_dict : subT "tuple" "dict" = false := by decide
theorem isi_lst {b : List D} {ns : List String} {g : G} {Q : D → G → Prop} {X : Exn → G → Prop} : wR (dIsi ns (.lst b) g) Q X = Q (.bl (ns.any (subT "list"))) g := rfl
theorem sub_lst_int : subT "list" "int" = false := by decide
theorem sub_lst_bool : subT "list" "bool" = false := by decide
theorem sub_lst_str : subT "list" "str" = false := by decide
theorem sub_lst_tuple : subT "list" "tuple" = false := by decide
theorem sub_lst_list : subT "list" "list" = true := by decide
theorem sub_lst_dict : subT "list" "dict" = false := by decide
theorem isi_dct {b : List (Key × D)} {ns : List String} {g : G} {Q : D → G → Prop} {X : Exn → G → Prop} : wR (dIsi ns (.dct b) g) Q X = Q (.bl (ns.any (subT "dict"))) g := rfl
theorem sub_dct_int : subT "dict" "int" = false := by decide
theorem sub_dct_bool : subT "dict" "bool" = false := by decide
theorem sub_dct_str : subT "dict" "str" = false := by decide
theorem sub_dct_tuple : subT "dict" "tuple" = false := by decide
theorem sub_dct_list : subT "dict" "list" = false := by decide
theorem sub_dct_dict : subT "dict" "dict" = true := by decide
theorem wR_inK {w : Str} {kvs : List (Key × D)} {neg : Bool} {g : G} {Q : D → G → Prop} {X : Exn → G → Prop} : wR (dIn neg (.str w) (.dct kvs) g) Q X = Q (.bl (if neg then !(lookK kvs (.inr w)).isSome else (lookK kvs (.inr w)).isSome)) g := rfl
theorem wR_inKI {w : Int} {kvs : List (Key × D)} {neg : Bool} {g : G} {Q : D → G → Prop} {X : Exn → G → Prop} : wR (dIn neg (.int w) (.dct kvs) g) Q X = Q (.bl (if neg then !(lookK kvs (.inl w)).isSome else (lookK kvs (.inl w)).isSome)) g := rfl
theorem wR_ixK {w : Str} {kvs : List (Key × D)} {g : G} {Q : D → G → Prop} {X : Exn → G → Prop} : wR (dIx (.dct kvs) (.str w) g) Q X = onO (lookK kvs (.inr w)) fun d => Q d g := by
  show wR (okO (lookK kvs (.inr w)) g) Q X = _
  rw [wR_okO]; rfl
theorem wR_ixKI {w : Int} {kvs : List (Key × D)} {g : G} {Q : D → G → Prop} {X : Exn → G → Prop} : wR (dIx (.dct kvs) (.int w) g) Q X = onO (lookK kvs (.inl w)) fun d => Q d g := by
  show wR (okO (lookK kvs (.inl w)) g) Q X = _
  rw [wR_okO]; rfl
theorem lookK_hit {k : Key} {v : D} {kvs : List (Key × D)} : lookK ((k, v) :: kvs) k = some v := by
  simp [lookK]
theorem lookK_miss {k k' : Key} {v : D} {kvs : List (Key × D)} (h : k' ≠ k) : lookK ((k', v) :: kvs) k = lookK kvs k := by
  simp [lookK, h]
theorem lookK_nil {k : Key} : lookK ([] : List (Key × D)) k = none := rfl
theorem wR_addT {xs ys : List D} {g : G} {Q : D → G → Prop} {X : Exn → G → Prop} : wR (dAdd (.tup xs) (.tup ys) g) Q X = (xs.length + ys.length ≤ sizeLine ∧ Q (.tup (xs ++ ys)) g) := by
  show wR (if _ then _ else _) _ _ = _
  rw [wR_ite, wR_ok, wR_stuck, ite_f]
theorem wR_addL {xs ys : List D} {g : G} {Q : D → G → Prop} {X : Exn → G → Prop} : wR (dAdd (.lst xs) (.lst ys) g) Q X = (xs.length + ys.length ≤ sizeLine ∧ Q (.lst (xs ++ ys)) g) := by
  show wR (if _ then _ else _) _ _ = _
  rw [wR_ite, wR_ok, wR_stuck, ite_f]
theorem mem_cutD {x : D} {xs : List D} {lo hi : Option Int} (h : x ∈ cutD xs lo hi) : x ∈ xs := List.mem_of_mem_drop (List.mem_of_mem_take h)
theorem length_cutD {xs : List D} {lo hi : Option Int} : (cutD xs lo hi).length ≤ xs.length := by
  unfold cutD
  rw [List.length_take, List.length_drop]
  omega
theorem mem_zipSelf {d : D} : ∀ {xs : List D}, d ∈ zipD xs xs → ∃ x ∈ xs, d = .tup [x, x]
  | [], h => by simp [zipD] at h
  | x :: xs, h => by
    simp only [zipD, List.mem_cons] at h
    rcases h with rfl | h
    · exact ⟨x, List.mem_cons_self .., rfl⟩
    · obtain ⟨y, hy, e⟩ := mem_zipSelf h
      exact ⟨y, List.mem_cons_of_mem _ hy, e⟩
/-- a tree of None, bools, ints, texts, tuples, lists, less deep than n -/
def treeD : Nat → D → Prop
  | 0, _ => False
  | _ + 1, .non => True
  | _ + 1, .bl _ => True
  | _ + 1, .int _ => True
  | _ + 1, .str _ => True
  | n + 1, .tup xs => xs.length ≤ sizeLine ∧ ∀ x ∈ xs, treeD n x
  | n + 1, .lst xs => xs.length ≤ sizeLine ∧ ∀ x ∈ xs, treeD n x
  | _ + 1, _ => False
theorem wR_all_true {n : Nat} {ds : List D} {g : G} {Q : D → G → Prop} {X : Exn → G → Prop} : wR (dAll [.lst (ds.map fun _ => D.bl true)] g) Q X = Q (.bl true) g := by
  rw [wR_all (p := fun _ => true)]
  congr 2
  induction ds with
  | nil => rfl
  | cons a b ih => simp
theorem cut_ints (ns : List Int) (lo hi : Option Int) : ∃ ys : List Int, cutD (ns.map D.int) lo hi = ys.map D.int := by
  unfold cutD
  rw [← List.map_drop, ← List.map_take]
  exact ⟨_, rfl⟩
theorem bag_new (ns : List Int) : BagC (.lst [.lst (cutD (ns.map D.int) none (some 63)), .int 0, .int 0, .int 5763, .int 0]) := by
  obtain ⟨ys, e⟩ := cut_ints ns none (some 63)
  rw [e]
  exact ⟨ys, 0, 0, 5763, 0, rfl, by decide, by decide, by decide⟩
theorem BagAt.push {g : G} {c : Cell} (h : BagC c) : BagAt (g ++ [c]) g.length := ⟨c, by simp, h⟩
theorem wO_star1 {r : List D → G → Env → Option Env} {x : D} {ns : List D} {g : G} {env : Env} {Q : Env → Prop} : wO (gStarF r 2 1 (.tup (x :: ns)) g env) Q = wO (r [x, .lst ns] g env) Q := by
  show wO (if 2 ≤ ns.length + 1 + 1 then r ([x] ++ [.lst (ns.take (ns.length + 1 + 1 - 2))] ++ ns.drop (ns.length + 1 + 1 - 2)) g env else none) Q = _
  have h1 : ns.length + 1 + 1 - 2 = ns.length := by omega
  rw [if_pos (by omega), h1, List.take_length, List.drop_length]
  rfl
theorem wR_of {α : Type} {r : Res α} {a : α} {g : G} {Q : α → G → Prop} {X : Exn → G → Prop} (e : r = .ok a g) (h : Q a g) : wR r Q X := by rw [e]; exact h
theorem wR_inF {x : D} {xs : List D} {neg : Bool} {g : G} {Q : D → G → Prop} {X : Exn → G → Prop} (h : flatD x = true ∧ xs.all flatD = true) : wR (dIn neg x (.tup xs) g) Q X = Q (.bl (if neg then !inF x xs else inF x xs)) g := by
  show wR (if _ then _ else _) Q X = _
  rw [if_pos h]; rfl
theorem atI_zero {α : Type} {x : α} {xs : List α} : atI (x :: xs) 0 = some x := by
  have := @atI_nat α (x :: xs) 0
  simpa using this
theorem atI_one {α : Type} {x y : α} {xs : List α} : atI (x :: y :: xs) 1 = some y := by
  have := @atI_nat α (x :: y :: xs) 1
  simpa using this
theorem atI_two {α : Type} {x y z : α} {xs : List α} : atI (x :: y :: z :: xs) 2 = some z := by
  have := @atI_nat α (x :: y :: z :: xs) 2
  simpa using this
/-- xs[1:] of a tuple -/
theorem cut1 {x : D} {xs : List D} : cutD (x :: xs) (some 1) none = xs := by
  unfold cutD
  have h1 : HT.sIx (x :: xs).length 0 (some 1) = 1 := by
    have := HT.sIx_nat (x :: xs).length 0 1
    simpa using this
  rw [h1]
  show List.take ((x :: xs).length - 1) xs = xs
  simp
end FL

/-! FLE: a law's end -/
namespace FL
open PySem PySem.Spec PyProof.Rows L2 FR
theorem walk_F {l : PySem.W.OpenLaw} {n k : Nat} {q : Program} {loose : List Str} {XP : (Str → Option Value) → Heap → Prop} {YP : PySem.World → Heap → Prop} {d : DefRec} {x : Str}
    (hn : l.most = some n) (hn2 : n ≤ sizeLine) (hdf : d.params.defaults = []) (hr : Room k callerA)
    (F : ∀ (w : PySem.World) (mg : Str → Option Value) (fa : Addr) (h : Heap), YP w h → h.Ns mainGlobals mg → mg d.name = some (.ref fa) →
      ∃ (K : PySem.W.Frag) (fd : FuncData) (sp : Sp), K.In h ∧ (∀ (s : Shared) (u : Value), BindsTo s fd ⟨[u], []⟩ [(x, u)]) ∧
        (∀ (H : Hp) (a : Addr) (ns : List Int), ns.length ≤ n → Only H → SqL K H a (ns.map V.int) → sp [.ref a] H (fun v _ => v = .bl true) fun _ _ _ => False) ∧
        ∀ base : Heap, K.In base → base.Ns mainGlobals mg → FnOk l.prog w K mg base (L2.CX l.prog w) k fa fd [x] sp) :
    PySem.W.WalkO q loose XP YP l.row.toRowW d [] (fun f vs => PySem.call f vs) := by
  refine Att.attach_call hn hdf fun w s₀ s₁ mg mb fa o pm cd doc a vs ns G Y ho hd hcd hmg hobj hints hlen hg => ?_
  obtain ⟨K, fd, sp, KX, hb, hsp, hF⟩ := F w mg fa _ Y G.T.g hmg
  exact law_call KX G.T.g G.T.b G.T.builtins G.T.nolimit hg hobj hints (Nat.le_trans hlen hn2) hr hF hb (fun H hO hS => hsp H a ns hlen hO hS) fun H e s' h => by
    obtain ⟨_, _, _, _, _, _, _, _, _, _, _, _, z⟩ := h
    exact z
theorem law_end {K : PySem.W.Frag} {cls : Str → Addr} {Fn : List D → G → Res D} (h : ∀ ns : List Int, ∃ g, Fn [.scr ns] [] = .ok (.bl true) g) {H : Hp} {a : Addr} {ns : List Int} (hS : SqL K H a (ns.map V.int)) :
    spF K cls 1 Fn [.ref a] H (fun v _ => v = .bl true) fun _ _ _ => False := by
  obtain ⟨g, e⟩ := h ns
  refine ⟨rfl, [], H, [], [.scr ns], ⟨rfl, fun n c a h => (by simp at h), fun n c a h => (by simp at h), fun n n' c c' a h => (by simp at h), fun a o h => h⟩, .cons (.scr hS) .nil, ?_⟩
  rw [e]
  intro v m F H' s w r
  cases r
  rfl
end FL

/-! FLH: the head's facts: classes, methods, properties, constants -/
namespace FLH
open PySem PySem.Spec PyProof.Rows L2 He FL
/-! ### where defs stand -/
def ppA (K : PySem.W.Frag) (c f : Str) : Addr := match PySem.W.findIn K (.ref (ga K c)) f with
  | some (some (.ref p)) => p
  | _ => 0
def pgA (K : PySem.W.Frag) (c f : Str) : Addr := match PySem.W.recIn K (ppA K c f) "property" with
  | some (.ref g :: _) => g
  | _ => 0
inductive At where
  | glo (x : Str) | meth (c m : Str) | prop (c f : Str)
def At.ad (K : PySem.W.Frag) : At → Addr
  | .glo x => ga K x
  | .meth c m => ma K (ga K c) m
  | .prop c f => pgA K c f
structure DefX where
  at_ : At
  name : Str
  qual : Str
  params : Arguments
  body : List Stmt
  scope : Scope
  dfl : List Dv := []
  kwd : List (Str × Dv) := []
def DefX.val (d : DefX) : FnW := some (d.name, d.qual, d.params, .stmts d.body, d.scope, mainGlobals, [], builtinsNs)
def DefX.dvs (K : PySem.W.Frag) (d : DefX) : List V := d.dfl.map (Dv.v K)
def DefX.kws (K : PySem.W.Frag) (d : DefX) : List (Str × V) := d.kwd.map fun q => (q.1, q.2.v K)
def fnX (K : PySem.W.Frag) (a : Addr) : FnW := match K.lookup a with
  | some ⟨_, _, .func fd, _⟩ => some (fd.name, fd.qualname, fd.params, fd.body, fd.scope, fd.globals, fd.closure, fd.builtins)
  | _ => none
def DefX.ok (K : PySem.W.Frag) (d : DefX) : Bool := PySem.W.keepIn K (.ref (d.at_.ad K)) && (match K.lookup (d.at_.ad K) with
  | some ⟨_, _, .func fd, _⟩ => PySem.W.codeIn K fd.code d.qual && (dflB K fd.defaults (d.dvs K) && kwdB K fd.kwdefaults (d.kws K))
  | _ => false)
theorem DefX.funD {K : PySem.W.Frag} {d : DefX} (e : fnX K (d.at_.ad K) = d.val) (c : d.ok K = true) : ∃ fd, FunD K d.name d.qual d.params d.body d.scope (d.dvs K) (d.kws K) (d.at_.ad K) fd := by
  obtain ⟨kp, c2⟩ := ba c
  unfold fnX at e
  cases q : K.lookup (d.at_.ad K) with
  | none =>
    rw [q] at c2
    cases c2
  | some o =>
    obtain ⟨oc, od, dt, osl⟩ := o
    rw [q] at c2 e
    cases dt with
    | func fd =>
      obtain ⟨n1, n2, n3, n4, n5, n6, n7, n8, n9, n10, n11, n12, n13, n14, n15⟩ := fd
      have e2 : (some (n1, n2, n3, n4, n5, n6, n7, n15) : FnW) = some (d.name, d.qual, d.params, .stmts d.body, d.scope, mainGlobals, [], builtinsNs) := e
      simp only [Option.some.injEq, Prod.mk.injEq] at e2
      obtain ⟨h1, h2, h3, h4, h5, h6, h7, h8⟩ := e2
      subst h1 h2 h3 h4 h5 h6 h7 h8
      have c3 : (PySem.W.codeIn K n13 d.qual && (dflB K n8 (d.dvs K) && kwdB K n9 (d.kws K))) = true := c2
      obtain ⟨k1, k2⟩ := ba c3
      obtain ⟨k3, k4⟩ := ba k2
      exact ⟨_, ⟨oc, od, n8, n9, n10, n11, n12, n13, n14, osl, rfl, q, k1, dflB_ok k3, kwdB_ok k4⟩, kp⟩
    | _ => cases c2
/-! ### facts -/
abbrev Ft : Type := PySem.W.Frag → Bool
def fFree (x : Str) : Ft := fun K => (Fa.free x).ok K
def fGlo (x : Str) : Ft := fun K => (Fa.glo x).ok K
def fInt (x : Str) (i : Int) : Ft := fun K => (Fa.int x i).ok K
def fStr (x z : Str) : Ft := fun K => (Fa.str x z).ok K
def fTup (x : Str) (vs : List Dv) : Ft := fun K => (Fa.glo x).ok K && tupB K x vs
def fCls (c : Str) : Ft := fun K => (Fa.cls c).ok K
def fNoat (c f : Str) : Ft := fun K => (Fa.noat c f).ok K
def fMethB (c m : Str) : Ft := fun K => (Fa.meth c m).ok K
def fMkr (c : Str) : Ft := fun K => (Fa.mkr c).ok K
def fEq (c : Str) : Ft := fun K => eqO (PySem.W.findIn K (.ref (ga K c)) "__eq__") (some (some (.ref (ma K (ga K c) "__eq__")))) && PySem.W.isFn K (.ref (ma K (ga K c) "__eq__"))
def fPropB (c f : Str) : Ft := fun K => eqO (PySem.W.findIn K (.ref (ga K c)) f) (some (some (.ref (ppA K c f)))) && (eqO (PySem.W.specialIn K (.ref (ppA K c f)) "__get__") (some (some (.builtin "property.__get__"))) && (decide (PySem.W.takesIn K (.ref (ppA K c f)) = some true) && (match PySem.W.recIn K (ppA K c f) "property" with
  | some (.ref _ :: _) => true
  | _ => false)))
def fOwn (c : Str) : Ft := fun K => (Fa.cls c).ok K && (eqO (PySem.W.findIn K (.ref (ga K c)) "__class__") (some (some (.builtin "object.__class__"))) && (eqO (PySem.W.specialIn K (.builtin "object.__class__") "__get__") (some (some (.builtin "getset_descriptor.__get__"))) &&
  (decide (PySem.W.takesIn K (.builtin "object.__class__") = some true) && decide (PySem.W.mroIn K (ga K c) (.type "object") = some true))))
def fKit (c d : Str) (b : Bool) : Ft := fun K => decide (PySem.W.kitOne K (.ref (ga K c)) (.ref (ga K d)) = some b)
def fKitT (d : Str) : Ft := fun K => tyAll.all fun t => decide (PySem.W.kitOne K (.type t) (.ref (ga K d)) = some false)
section
variable {K : PySem.W.Frag} {h : Heap} {mg : Str → Option Value}
theorem fEq_ok {c : Str} (h : fEq c K = true) : PySem.W.findIn K (.ref (ga K c)) "__eq__" = some (some (.ref (ma K (ga K c) "__eq__"))) ∧ PySem.W.isFn K (.ref (ma K (ga K c) "__eq__")) = true := ⟨eqO_ok (ba h).1, (ba h).2⟩
theorem fProp_ok {c f : Str} (h : fPropB c f K = true) : PropOf K (ga K c) f (ppA K c f) (pgA K c f) := by
  obtain ⟨h1, h⟩ := ba h
  obtain ⟨h2, h⟩ := ba h
  obtain ⟨h3, h4⟩ := ba h
  refine ⟨eqO_ok h1, eqO_ok h2, of_decide_eq_true h3, ?_⟩
  cases q : PySem.W.recIn K (ppA K c f) "property" with
  | none => rw [q] at h4; cases h4
  | some l =>
    rw [q] at h4
    match l, q, h4 with
    | .ref g :: rest, q, _ =>
      have : pgA K c f = g := by unfold pgA; rw [q]
      exact ⟨rest, by rw [this]⟩
theorem fOwn_ok {c : Str} (h : fOwn c K = true) : OwnC K (ga K c) := by
  obtain ⟨h1, h⟩ := ba h
  obtain ⟨h2, h⟩ := ba h
  obtain ⟨h3, h⟩ := ba h
  obtain ⟨h4, h5⟩ := ba h
  exact ⟨cls_ok h1, eqO_ok h2, eqO_ok h3, of_decide_eq_true h4, of_decide_eq_true h5⟩
theorem fKit_ok {c d : Str} {b : Bool} (h : fKit c d b K = true) : PySem.W.kitOne K (.ref (ga K c)) (.ref (ga K d)) = some b := of_decide_eq_true h
theorem fKitT_ok {d : Str} (h : fKitT d K = true) : ∀ t ∈ tyAll, PySem.W.kitOne K (.type t) (.ref (ga K d)) = some false := fun t ht => of_decide_eq_true (List.all_eq_true.mp h t ht)
def dvD : Dv → D
  | .non => .non
  | .bl b => .bl b
  | .int i => .int i
  | .str x => .str x
  | _ => .non
def flatDv : Dv → Bool
  | .non => true | .bl _ => true | .int _ => true | .str _ => true | _ => false
theorem dvs_rep {cls : Str → Addr} {m : List Addr} {F : Hp} : ∀ vs : List Dv, vs.all flatDv = true → RepL K cls m F (vs.map (Dv.v K)) (vs.map dvD)
  | [], _ => .nil
  | v :: vs, h => by
    rw [List.all_cons] at h
    obtain ⟨h1, h2⟩ := ba h
    refine .cons ?_ (dvs_rep vs h2)
    cases v <;> first | exact .non | exact .bl _ | exact .int _ | exact .str _ | cases h1
theorem fTup_ok (X : K.In h) (G : h.Ns mainGlobals mg) {x : Str} {vs : List Dv} (hv : vs.all flatDv = true) (c : fTup x vs K = true) : mg x = some (.ref (ga K x)) ∧ ∀ m F, Rep K (ga K) m F (.ref (ga K x)) (.tup (vs.map dvD)) := by
  obtain ⟨h1, h2⟩ := ba c
  exact ⟨glo_ok X G h1, fun m F => .tup (tupB_ok h2 F) (dvs_rep vs hv)⟩
end
/-! ### the Hook -/
def obsX (fa : List Ft) (fn : List DefX) (K : PySem.W.Frag) : AlD := ((fa.all fun f => f K) && fn.all fun d => d.ok K, fn.map fun d => fnX K (d.at_.ad K))
def valX (fn : List DefX) : AlD := (true, fn.map DefX.val)
def SaysX (fa : List Ft) (fn : List DefX) (K : PySem.W.Frag) : Prop := obsX fa fn K = valX fn
def obsXG (n : Nat) (fa : List Ft) (fn : List DefX) (g : Addr → Option Obj) : AlD := obsX fa fn (frG g (asD g n))
def hookX (n : Nat) (fa : List Ft) (fn : List DefX) : PySem.W.Hook where
  α := AlD
  obs := fun s => obsXG n fa fn s.heap.get?
  val := fun _ => valX fn
  says := fun _ h => ∃ K : PySem.W.Frag, K.In h ∧ SaysX fa fn K
  of := fun _ _ e => ⟨_, frG_in, e⟩
  keeps := fun _ _ _ ⟨K, hK, c⟩ k => ⟨K, PySem.W.Frag.In.keeps hK k, c⟩
theorem obsXG_eq {n : Nat} {fa : List Ft} {fn : List DefX} {g : Addr → Option Obj} {s : Shared} (h : ∀ a, g a = s.heap.get? a) : obsXG n fa fn g = (hookX n fa fn).obs s := by
  have e : g = s.heap.get? := funext h
  rw [e] <;> rfl
section
variable {fa : List Ft} {fn : List DefX} {K : PySem.W.Frag}
theorem SaysX.fact (c : SaysX fa fn K) (i : Nat) {f : Ft} (h : fa[i]? = some f := by rfl) : f K = true := by
  have c1 := (ba (show ((fa.all fun f => f K) && fn.all fun d => d.ok K) = true from congrArg (fun z : AlD => z.1) c)).1
  exact List.all_eq_true.mp c1 f (List.mem_of_getElem? h)
theorem SaysX.def_ (c : SaysX fa fn K) (i : Nat) {d : DefX} (h : fn[i]? = some d := by rfl) : ∃ fd, FunD K d.name d.qual d.params d.body d.scope (d.dvs K) (d.kws K) (d.at_.ad K) fd := by
  have c2 := (ba (show ((fa.all fun f => f K) && fn.all fun d => d.ok K) = true from congrArg (fun z : AlD => z.1) c)).2
  have e : fn.map (fun d => fnX K (d.at_.ad K)) = fn.map DefX.val := congrArg (fun z : AlD => z.2) c
  have e2 : (fn.map fun d => fnX K (d.at_.ad K))[i]? = (fn.map DefX.val)[i]? := by rw [e]
  rw [List.getElem?_map, List.getElem?_map, h] at e2
  exact DefX.funD (Option.some.inj e2) (List.all_eq_true.mp c2 d (List.mem_of_getElem? h))
end
end FLH

/-! FLV: steps of instances, own lists, comprehensions of many clauses, dict comprehensions -/
namespace FL
open PySem PySem.Spec PyProof.Rows L2 FR
section
variable {α β : Type} {Qd : D → G → Prop} {Qb : Bool → G → Prop} {Ql : List D → G → Prop} {X : Exn → G → Prop} {E : Es} {env : Env} {g : G}
theorem wR_fld {cs : List Str} {f c : Str} {fs : List (Str × D)} : wR (dFld cs f (.ins c fs) g) Qd X = (c ∈ cs ∧ onO (fs.lookup f) fun v => Qd v g) := by
  show wR (if c ∈ cs then okO (fs.lookup f) g else .stuck) Qd X = _
  rw [wR_ite, wR_okO, wR_stuck, ite_f]; rfl
theorem wR_fldR {cs : List Str} {f c : Str} {n : Nat} {fs : List (Str × D)} (h : g[n]? = some (.ins c fs)) : wR (dFld cs f (.ref n) g) Qd X = (c ∈ cs ∧ onO (fs.lookup f) fun v => Qd v g) := by
  have e : dFld cs f (.ref n) g = if c ∈ cs then okO (fs.lookup f) g else .stuck := by
    unfold dFld insD; simp only [h]
  rw [e, wR_ite, wR_okO, wR_stuck, ite_f]; rfl
theorem wS_setF {cs : List Str} {f : Str} {fe fo : Env → G → Res D} : wS (fSetF cs f fe fo env g) E = wR (fe env g) (fun d g => wR (fo env g) (fun o g => onO (setF cs f g o d) fun g3 => E.N env g3) (fun x g => E.X x env g)) (fun x g => E.X x env g) := by
  unfold fSetF
  simp only [wS_eS]
  congr 1; funext d g; congr 1; funext o g
  cases setF cs f g o d <;> rfl
theorem setF_at {cs : List Str} {f c : Str} {n : Nat} {fs : List (Str × D)} {d : D} (h : g[n]? = some (.ins c fs)) (hc : c ∈ cs) (hl : fs.length < 1000) : setF cs f g (.ref n) d = some (g.set n (.ins c (putD f d fs))) := by
  unfold setF
  simp only [h]
  rw [if_pos ⟨hc, hl⟩]
def onIns (o : Option (Str × List (Str × D))) (Q : Str → List (Str × D) → Prop) : Prop := match o with
  | some (c, fs) => Q c fs
  | none => False
theorem onIns_some {c : Str} {fs : List (Str × D)} {Q : Str → List (Str × D) → Prop} : onIns (some (c, fs)) Q = Q c fs := rfl
theorem wR_meth {c m : Str} {Fn : List D → G → Res D} {fo : Env → G → Res D} {fa : Env → G → Res (List D)} : wR (fMeth c m Fn fo fa env g) Qd X = wR (fo env g) (fun o g => onIns (insD g o) fun c' fs => (c' = c ∧ (fs.lookup m).isNone = true) ∧ wR (fa env g) (fun ds g => wR (Fn (o :: ds) g) Qd X) X) X := by
  unfold fMeth
  rw [wR_bind]
  congr 1; funext o g
  cases insD g o with
  | none => rfl
  | some p =>
    obtain ⟨c', fs⟩ := p
    show wR (if _ then _ else _) Qd X = ((c' = c ∧ (fs.lookup m).isNone = true) ∧ _)
    rw [wR_ite, wR_stuck, ite_f, wR_bind]
theorem insD_ins {c : Str} {fs : List (Str × D)} : insD g (.ins c fs) = some (c, fs) := rfl
theorem insD_ref {n : Nat} {c : Str} {fs : List (Str × D)} (h : g[n]? = some (.ins c fs)) : insD g (.ref n) = some (c, fs) := by
  unfold insD; simp only [h]
theorem wR_prop {c : Str} {Fn : List D → G → Res D} {d : D} : wR (dProp c Fn d g) Qd X = onIns (insD g d) fun c' _ => c' = c ∧ wR (Fn [d] g) Qd X := by
  unfold dProp
  cases insD g d with
  | none => rfl
  | some p =>
    obtain ⟨c', fs⟩ := p
    show wR (if _ then _ else _) Qd X = (c' = c ∧ _)
    rw [wR_ite, wR_stuck, ite_f]
theorem wR_dDf {Fn : List D → G → Res D} {ds : List D} : wR (dDf Fn [] ds g) Qd X = wR (Fn ds g) Qd X := by
  unfold dDf; rw [List.append_nil]
theorem wR_starA {fe : Env → G → Res D} {fr : Env → G → Res (List D)} : wR (fStarA fe fr env g) Ql X = wR (fe env g) (fun d g => onO (seqD g d) fun xs => wR (fr env g) (fun ys g => Ql (xs ++ ys) g) X) X := by
  unfold fStarA
  rw [wR_bind]
  congr 1; funext d g
  cases seqD g d with
  | none => rfl
  | some xs => simp only [wR_bind, wR_ok]; rfl
theorem seqD_lst {xs : List D} : seqD g (.lst xs) = some xs := rfl
theorem seqD_tup {xs : List D} : seqD g (.tup xs) = some xs := rfl
def onL (s : Option Sl) (Q : List D → Prop) : Prop := match s with
  | some (.lst xs) => Q xs
  | _ => False
theorem onL_e {xs : List D} {Q : List D → Prop} : onL (some (.lst xs)) Q = Q xs := rfl
theorem wR_ixO {i : Nat} {fb : Env → G → Res D} : wR (fIxO i fb env g) Qd X = onL env[i]? fun xs => wR (fb env g) (fun d g => onI d fun k => onO (atI xs k) fun v => Qd v g) X := by
  unfold fIxO
  cases h : env[i]? with
  | none => rfl
  | some s =>
    cases s with
    | lst xs =>
      show wR (Res.bind _ _) Qd X = wR (fb env g) _ X
      rw [wR_bind]
      congr 1; funext d g
      cases d <;> first | rfl | skip
      show wR (okO _ g) Qd X = _
      rw [wR_okO]; rfl
    | _ => rfl
theorem wR_lenO {i : Nat} : wR (fLenO i env g) Qd X = onL env[i]? fun xs => Qd (.int xs.length) g := by
  unfold fLenO
  cases h : env[i]? with
  | none => rfl
  | some s => cases s <;> rfl
theorem wS_setL {i : Nat} {fa : Env → G → Res (List D)} : wS (fSetL fa i env g) E = wR (fa env g) (fun ds g => (ds.length ≤ sizeLine ∧ i < env.length) ∧ E.N (env.set i (.lst ds)) g) (fun x g => E.X x env g) := by
  unfold fSetL
  cases fa env g with
  | ok ds g1 =>
    show wS (if _ then _ else _) E = ((ds.length ≤ sizeLine ∧ i < env.length) ∧ E.N (env.set i (.lst ds)) g1)
    by_cases h : ds.length ≤ sizeLine ∧ i < env.length
    · rw [if_pos h, eq_true h, true_and]; rfl
    · rw [if_neg h, eq_false h, false_and]; rfl
  | exc x g1 => rfl
  | stuck => rfl
theorem wS_appO {i : Nat} {fa : Env → G → Res D} : wS (fAppO i fa env g) E = onL env[i]? fun xs => wR (fa env g) (fun d g => xs.length < sizeLine ∧ E.N (env.set i (.lst (xs ++ [d]))) g) (fun x g => E.X x env g) := by
  unfold fAppO
  cases h : env[i]? with
  | none => rfl
  | some s =>
    cases s with
    | lst xs =>
      show wS (eS env (fa env g) _) E = wR (fa env g) _ _
      rw [wS_eS]
      congr 1; funext d g1
      show wS (if _ then _ else _) E = _
      by_cases h : xs.length < sizeLine
      · rw [if_pos h, eq_true h, true_and]; rfl
      · rw [if_neg h, eq_false h, false_and]; rfl
    | _ => rfl
theorem wS_frz {i : Nat} {f : Env → G → SRes} : wS (fFrz i f env g) E = wS (f (frz i env) g) E := rfl
theorem frz_lst {i : Nat} {xs : List D} (h : env[i]? = some (.lst xs)) : frz i env = env.set i (.val (.lst xs)) := by
  unfold frz; simp only [h]
theorem wR_max2 {i j : Int} : wR (dMax2 [.int i, .int j] g) Qd X = Qd (.int (max i j)) g := by
  show Qd (.int (if j > i then j else i)) g = _
  congr 2
  rw [Int.max_def]
  by_cases h : i < j
  · rw [if_pos h, if_pos (by omega)]
  · rw [if_neg (by omega)]; split <;> omega
theorem wR_min2 {i j : Int} : wR (dMin2 [.int i, .int j] g) Qd X = Qd (.int (min i j)) g := by
  show Qd (.int (if j < i then j else i)) g = _
  congr 2
  rw [Int.min_def]
  by_cases h : j < i
  · rw [if_pos h, if_neg (by omega)]
  · rw [if_neg (by omega)]; split <;> omega
theorem wR_intB {b : Bool} : wR (dIntC [.bl b] g) Qd X = Qd (.int (if b then 1 else 0)) g := rfl
theorem wR_isC {tab : List (Str × Bool)} {c : Str} {fs : List (Str × D)} : wR (dIsC tab (.ins c fs) g) Qd X = onO (tab.lookup c) fun b => Qd (.bl b) g := by
  show wR (match tab.lookup c with | some b => .ok (.bl b) g | none => .stuck) Qd X = _
  cases tab.lookup c <;> rfl
theorem wR_eqC {c c1 c2 : Str} {f1 f2 : List (Str × D)} {Fn : List D → G → Res D} : wR (dEqC c Fn (.ins c1 f1) (.ins c2 f2) g) Qd X = ((c1 = c ∧ c2 = c) ∧ wR (Fn [.ins c1 f1, .ins c2 f2] g) (fun d g => onB d fun b => Qd (.bl b) g) fun _ _ => False) := by
  show wR (if _ then _ else _) Qd X = _
  rw [wR_ite, wR_stuck, ite_f]
  congr 1
  cases Fn [.ins c1 f1, .ins c2 f2] g with
  | ok d g1 => cases d <;> rfl
  | exc _ _ => rfl
  | stuck => rfl
theorem wR_makeK {c : Str} {n m : Nat} {Fn : List D → G → Res D} {fa fk : Env → G → Res (List D)} : wR (fMakeK c n m Fn fa fk env g) Qd X = wR (fa env g) (fun ds g => wR (fk env g) (fun zs g => (ds.length = n ∧ zs.length = m) ∧ wR (mkIns c Fn (ds ++ zs) g) Qd X) X) X := by
  unfold fMakeK
  rw [wR_bind]
  congr 1; funext ds g
  rw [wR_bind]
  congr 1; funext zs g
  rw [wR_ite, wR_stuck, ite_f]
theorem wR_mkIns {c : Str} {Fn : List D → G → Res D} {ds : List D} : wR (mkIns c Fn ds g) Qd X = wR (Fn (.ref g.length :: ds) (g ++ [.ins c []])) (fun d g2 => d = .non ∧ Qd (.ref g.length) g2) X := by
  unfold mkIns
  cases Fn (.ref g.length :: ds) (g ++ [.ins c []]) with
  | ok d g2 => cases d <;> simp [wR]
  | exc _ _ => rfl
  | stuck => rfl
theorem wR_frzI {n : Nat} {c : Str} {fs : List (Str × D)} (h : g[n]? = some (.ins c fs)) : wR (frzD (.ref n) g) Qd X = Qd (.ins c fs) (g.set n .dead) := by
  have e : frzD (.ref n) g = .ok (.ins c fs) (g.set n .dead) := by unfold frzD; simp only [h]
  rw [e]; rfl
theorem turnsF_pure {ft : D → G → Env → Option Env} {fif : Env → G → Res Bool} {inner : FBody} {env : Env} {g : G} (f : D → List D) : ∀ (ds : List D) (acc : List D), (∀ d ∈ ds, ∀ acc : List D, ∃ e, ft d g env = some e ∧ fif e g = .ok true g ∧ (acc.length + (f d).length ≤ sizeLine → inner e g acc = .ok (acc ++ f d) g)) → acc.length + (ds.flatMap f).length ≤ sizeLine → turnsF ft fif inner env ds g acc = .ok (acc ++ ds.flatMap f) g
  | [], acc, _, _ => by simp [turnsF]
  | d :: ds, acc, h, hl => by
    obtain ⟨e, h1, h2, h3⟩ := h d (List.mem_cons_self ..) acc
    rw [List.flatMap_cons, List.length_append] at hl
    have h4 := turnsF_pure f ds (acc ++ f d) (fun x hx => h x (List.mem_cons_of_mem _ hx)) (by rw [List.length_append]; omega)
    simp only [turnsF, h1, h2, h3 (by omega), h4, List.flatMap_cons, List.append_assoc]
theorem wR_lcN {fi : Env → G → Res (List D)} {ft : D → G → Env → Option Env} {fif : Env → G → Res Bool} {inner : FBody} {vs : List Nat} : wR (fLcN fi ft fif inner vs env g) Qd X = wR (fi env g) (fun ds g => wR (turnsF ft fif inner (wipeE env vs) ds g []) (fun ys g => Qd (.lst ys) g) (fun _ _ => False)) X := by
  unfold fLcN
  rw [wR_bind]
  congr 1; funext ds g
  cases turnsF ft fif inner (wipeE env vs) ds g [] <;> rfl
theorem wR_dc {fi : Env → G → Res (List D)} {ft : D → G → Env → Option Env} {fif : Env → G → Res Bool} {fk fv : Env → G → Res D} {vs : List Nat} : wR (fDc fi ft fif fk fv vs env g) Qd X = wR (fi env g) (fun ds g => wR (turnsK ft fif (putF2 fk fv) (wipeE env vs) ds g []) (fun ys g => Qd (.dct ys) g) (fun _ _ => False)) X := by
  unfold fDc
  rw [wR_bind]
  congr 1; funext ds g
  cases turnsK ft fif (putF2 fk fv) (wipeE env vs) ds g [] <;> rfl
end
theorem wS_range {ft : D → G → Env → Option Env} {fb : Env → G → SRes} {E : Es} (I : Nat → Env → G → Prop) (lo : Int) (n : Nat) {env : Env} {g : G} (h0 : I 0 env g)
    (hs : ∀ i env g, i < n → I i env g → wO (ft (.int (lo + (i : Nat))) g env) fun e => wS (fb e g) ⟨fun e g => I (i + 1) e g, E.R, E.N, fun e g => I (i + 1) e g, E.X⟩) (hd : ∀ env g, I n env g → E.N env g) : wS (loopF ft fb (rangeD lo n) env g) E := by
  refine wS_loop (fun ds env g => ∃ i, i ≤ n ∧ ds = (rangeD lo n).drop i ∧ I i env g) _ _ _ ⟨0, Nat.zero_le _, rfl, h0⟩ ?_ ?_
  · rintro d ds env g ⟨i, hi, hdr, h⟩
    have hl : (rangeD lo n).length = n := by unfold rangeD; rw [List.length_map, List.length_range]
    have hin : i < n := by
      have := congrArg List.length hdr
      rw [List.length_cons, List.length_drop, hl] at this
      omega
    have hg : (rangeD lo n)[i]? = some (.int (lo + (i : Nat))) := by
      unfold rangeD
      rw [List.getElem?_map, List.getElem?_range hin]; rfl
    have e0 : (rangeD lo n).drop i = .int (lo + (i : Nat)) :: (rangeD lo n).drop (i + 1) := by
      obtain ⟨hx, hy⟩ := List.getElem?_eq_some_iff.mp hg
      rw [List.drop_eq_getElem_cons hx, hy]
    rw [e0] at hdr
    simp only [List.cons.injEq] at hdr
    obtain ⟨rfl, rfl⟩ := hdr
    have hh := hs i env g hin h
    cases e : ft (.int (lo + (i : Nat))) g env with
    | none => rw [e] at hh; exact hh
    | some e1 =>
      rw [e] at hh
      show wS (fb e1 g) _
      have hh' : wS (fb e1 g) ⟨fun e g => I (i + 1) e g, E.R, E.N, fun e g => I (i + 1) e g, E.X⟩ := hh
      cases e2 : fb e1 g <;> rw [e2] at hh' <;> first | exact ⟨i + 1, hin, rfl, hh'⟩ | exact hh'
  · rintro env g ⟨i, hi, hdr, h⟩
    have hl : (rangeD lo n).length = n := by unfold rangeD; rw [List.length_map, List.length_range]
    have hin : i = n := by
      have := congrArg List.length hdr
      rw [List.length_nil, List.length_drop, hl] at this
      omega
    subst hin
    exact hd env g h
/-! comprehensions that draw -/
theorem wR_comp_nil {ft : D → G → Env → Option Env} {fif : Env → G → Res Bool} {fe : Env → G → Res D} {env : Env} {g : G} {Q : List D → G → Prop} {X : Exn → G → Prop} : wR (compF ft fif fe env [] g) Q X = Q [] g := rfl
theorem wR_comp_cons {ft : D → G → Env → Option Env} {fif : Env → G → Res Bool} {fe : Env → G → Res D} {env : Env} {d : D} {ds : List D} {g : G} {Q : List D → G → Prop} : wR (compF ft fif fe env (d :: ds) g) Q (fun _ _ => False) =
    wO (ft d g env) fun e => wR (fif e g) (fun b g1 => if b = true then wR (fe e g1) (fun y g2 => wR (compF ft fif fe env ds g2) (fun ys g3 => Q (y :: ys) g3) (fun _ _ => False)) (fun _ _ => False) else wR (compF ft fif fe env ds g1) Q (fun _ _ => False)) (fun _ _ => False) := by
  show wR (match ft d g env with | none => .stuck | some env1 => _) Q _ = _
  cases ft d g env with
  | none => rfl
  | some e =>
    show wR (match fif e g with | .ok true g1 => _ | .ok false g1 => _ | _ => .stuck) Q _ = wR (fif e g) _ _
    cases fif e g with
    | ok b g1 =>
      cases b with
      | true =>
        show wR (match fe e g1 with | .ok y g2 => _ | _ => .stuck) Q _ = wR (fe e g1) _ _
        cases fe e g1 with
        | ok y g2 =>
          show wR (match compF ft fif fe env ds g2 with | .ok ys g3 => .ok (y :: ys) g3 | _ => .stuck) Q _ = wR (compF ft fif fe env ds g2) _ _
          cases compF ft fif fe env ds g2 <;> rfl
        | exc _ _ => rfl
        | stuck => rfl
      | false => rfl
    | exc _ _ => rfl
    | stuck => rfl
theorem rg4 : rangeD 0 (4 : Int).toNat = [.int 0, .int 1, .int 2, .int 3] := rfl
end FL

/-! PB1: lock books: numbers, tables, splits, wants are looked at -/
namespace FL
open PySem PySem.Spec PyProof.Rows L2 FR
/-- a list or a tuple of these -/
inductive Sq : D → List D → Prop
  | l {xs : List D} : Sq (.lst xs) xs
  | t {xs : List D} : Sq (.tup xs) xs
section
variable {d : D} {xs : List D} {g : G} {Q : D → G → Prop} {X : Exn → G → Prop}
theorem Sq.seq (h : Sq d xs) : seqF d = some xs := by cases h <;> rfl
theorem Sq.seqD (h : Sq d xs) : FL.seqD g d = some xs := by cases h <;> rfl
theorem wR_lenQ (h : Sq d xs) : wR (dLen [d] g) Q X = Q (.int xs.length) g := by cases h <;> rfl
theorem wR_isiQ (h : Sq d xs) : wR (dIsi ["list", "tuple"] d g) Q X = Q (.bl true) g := by cases h <;> rfl
theorem wR_ixQ (h : Sq d xs) {i : Int} : wR (dIx d (.int i) g) Q X = onO (atI xs i) fun d => Q d g := by
  cases h
  · exact wR_ixL
  · exact wR_ixT
theorem wR_tupQ (h : Sq d xs) : wR (dTupC [d] g) Q X = Q (.tup xs) g := by cases h <;> rfl
theorem wR_listQ (h : Sq d xs) : wR (dListC [d] g) Q X = Q (.lst xs) g := by cases h <;> rfl
end
/-- sequences of either kind -/
structure Sqn (o : List D → D) : Prop where
  h : ∀ xs, Sq (o xs) xs
theorem sqn_l : Sqn D.lst := ⟨fun _ => .l⟩
theorem sqn_t : Sqn D.tup := ⟨fun _ => .t⟩
/-- a row of ints -/
def rowD (ρ : List D → D) (r : List Int) : D := ρ (r.map D.int)
def tabD (o ρ : List D → D) (t : List (List Int)) : D := o (t.map (rowD ρ))
abbrev Pr := Int × Int
def pairD (p : Pr) : D := .tup [.int p.1, .int p.2]
def prsD (o : List D → D) (ps : List Pr) : D := o (ps.map pairD)
/-! ### numbers -/
theorem isnI (i : Int) (g : G) : F_is_number [.int i] g = .ok (.bl true) g := by
  refine wR_eq ?_
  unfold F_is_number b_is_number
  simp only [wR_body, wR_ok, wR_stuck, wR_exc, wR_bind, wR_var, wR_c, wR_1, wR_2, wR_nilA, wR_consA, wR_ite, wR_tup, wR_lst, wR_cellL, wR_asB, wR_test, wR_andT, wR_orT, wR_notT, onB_bl, wR_andV, wR_orV, wR_notV, wR_if, wR_call, wR_chain, wR_slice, wR_noPart, wR_part, wR_okO, wS_next, wS_fNext, wS_seq, wS_ret, wS_retN, wS_expr, wS_asg, wO_set, wO_some, wO_nils, wO_conss, wO_tup, wS_if, wS_for, wS_store, wS_par, on1_e, on2_e, onI_e, wR_range1, wR_range2, onSeq_some, wR_seqI, wR_zip, wR_enum, wR_lc, wR_yes, wR_sub, wR_add, wR_mul, wR_mod, wR_div, wR_pow, wR_neg, wR_lt, wR_le, wR_gt, wR_ge, wR_abs, wR_intC, wR_eqI, wR_eqS, wR_eqB, wR_isN, wR_lenL, wR_lenT, wR_listL, wR_listT, wR_tupL, wR_tupT, onO_some, wR_ixL, wR_ixT, sl_tup, sl_lst, sl_scr, isi_non, sub_non_int, sub_non_bool, sub_non_str, sub_non_tuple, sub_non_list, sub_non_dict, isi_bl, sub_bl_int, sub_bl_bool, sub_bl_str, sub_bl_tuple, sub_bl_list, sub_bl_dict, isi_int, sub_int_int, sub_int_bool, sub_int_str, sub_int_tuple, sub_int_list, sub_int_dict, isi_str, sub_str_int, sub_str_bool, sub_str_str, sub_str_tuple, sub_str_list, sub_str_dict, isi_tup, sub_tup_int, sub_tup_bool, sub_tup_str, sub_tup_tuple, sub_tup_list, sub_tup_dict, isi_lst, sub_lst_int, sub_lst_bool, sub_lst_str, sub_lst_tuple, sub_lst_list, sub_lst_dict, isi_dct, sub_dct_int, sub_dct_bool, sub_dct_str, sub_dct_tuple, sub_dct_list, sub_dct_dict, List.any_cons, List.any_nil, Bool.or_false, Bool.or_true, Bool.false_or, Bool.true_or, wR_addT, wR_addL, wO_star1, wR_inK, wR_inKI, wR_ixK, wR_ixKI, lookK_hit, lookK_nil, Option.isSome_some, Option.isSome_none, seqF_tup, seqF_lst, seqF_scr, sz0, sz1, sz2, sz3, sz4, sz5, sz6, sz7, sz8, sz9, sz10, sz11, sz12, sz13, sz14, sz15, sz16, startE, isN, List.length_cons, List.length_nil, List.map_cons, List.map_nil, List.cons_append, List.nil_append, List.getElem?_cons_zero, List.getElem?_cons_succ, List.set_cons_zero, List.set_cons_succ, List.reduceReplicate, Nat.reduceAdd, Nat.reduceSub, Nat.zero_add, Option.map_some, decide_eq_true_eq, Bool.false_eq_true, Bool.not_true, Bool.not_false, if_false, if_true, true_and, and_true]
def belB (i k : Int) : Bool := decide (0 ≤ i) && decide (i < k)
theorem isbI (i k : Int) (g : G) : F_is_below [.int i, .int k] g = .ok (.bl (belB i k)) g := by
  refine wR_eq ?_
  unfold F_is_below b_is_below
  simp only [wR_body, wR_ok, wR_stuck, wR_exc, wR_bind, wR_var, wR_c, wR_1, wR_2, wR_nilA, wR_consA, wR_ite, wR_tup, wR_lst, wR_cellL, wR_asB, wR_test, wR_andT, wR_orT, wR_notT, onB_bl, wR_andV, wR_orV, wR_notV, wR_if, wR_call, wR_chain, wR_slice, wR_noPart, wR_part, wR_okO, wS_next, wS_fNext, wS_seq, wS_ret, wS_retN, wS_expr, wS_asg, wO_set, wO_some, wO_nils, wO_conss, wO_tup, wS_if, wS_for, wS_store, wS_par, on1_e, on2_e, onI_e, wR_range1, wR_range2, onSeq_some, wR_seqI, wR_zip, wR_enum, wR_lc, wR_yes, wR_sub, wR_add, wR_mul, wR_mod, wR_div, wR_pow, wR_neg, wR_lt, wR_le, wR_gt, wR_ge, wR_abs, wR_intC, wR_eqI, wR_eqS, wR_eqB, wR_isN, wR_lenL, wR_lenT, wR_listL, wR_listT, wR_tupL, wR_tupT, onO_some, wR_ixL, wR_ixT, sl_tup, sl_lst, sl_scr, isi_non, sub_non_int, sub_non_bool, sub_non_str, sub_non_tuple, sub_non_list, sub_non_dict, isi_bl, sub_bl_int, sub_bl_bool, sub_bl_str, sub_bl_tuple, sub_bl_list, sub_bl_dict, isi_int, sub_int_int, sub_int_bool, sub_int_str, sub_int_tuple, sub_int_list, sub_int_dict, isi_str, sub_str_int, sub_str_bool, sub_str_str, sub_str_tuple, sub_str_list, sub_str_dict, isi_tup, sub_tup_int, sub_tup_bool, sub_tup_str, sub_tup_tuple, sub_tup_list, sub_tup_dict, isi_lst, sub_lst_int, sub_lst_bool, sub_lst_str, sub_lst_tuple, sub_lst_list, sub_lst_dict, isi_dct, sub_dct_int, sub_dct_bool, sub_dct_str, sub_dct_tuple, sub_dct_list, sub_dct_dict, List.any_cons, List.any_nil, Bool.or_false, Bool.or_true, Bool.false_or, Bool.true_or, wR_addT, wR_addL, wO_star1, wR_inK, wR_inKI, wR_ixK, wR_ixKI, lookK_hit, lookK_nil, Option.isSome_some, Option.isSome_none, seqF_tup, seqF_lst, seqF_scr, sz0, sz1, sz2, sz3, sz4, sz5, sz6, sz7, sz8, sz9, sz10, sz11, sz12, sz13, sz14, sz15, sz16, startE, isN, List.length_cons, List.length_nil, List.map_cons, List.map_nil, List.cons_append, List.nil_append, List.getElem?_cons_zero, List.getElem?_cons_succ, List.set_cons_zero, List.set_cons_succ, List.reduceReplicate, Nat.reduceAdd, Nat.reduceSub, Nat.zero_add, Option.map_some, decide_eq_true_eq, Bool.false_eq_true, Bool.not_true, Bool.not_false, if_false, if_true, true_and, and_true, eq_wR (isnI _ _)]
  by_cases h : 0 ≤ i <;> simp [h, wR_ok, wR_stuck, wR_exc, wR_bind, wR_var, wR_c, wR_1, wR_2, wR_nilA, wR_consA, wR_ite, wR_tup, wR_lst, wR_cellL, wR_asB, wR_test, wR_andT, wR_orT, wR_notT, onB_bl, wR_andV, wR_orV, wR_notV, wR_if, wR_call, wR_chain, wR_slice, wR_noPart, wR_part, wR_okO, wS_next, wS_fNext, wS_seq, wS_ret, wS_retN, wS_expr, wS_asg, wO_set, wO_some, wO_nils, wO_conss, wO_tup, wS_if, wS_for, wS_store, wS_par, on1_e, on2_e, onI_e, wR_range1, wR_range2, onSeq_some, wR_seqI, wR_zip, wR_enum, wR_lc, wR_yes, wR_sub, wR_add, wR_mul, wR_mod, wR_div, wR_pow, wR_neg, wR_lt, wR_le, wR_gt, wR_ge, wR_abs, wR_intC, wR_eqI, wR_eqS, wR_eqB, wR_isN, wR_lenL, wR_lenT, wR_listL, wR_listT, wR_tupL, wR_tupT, onO_some, wR_ixL, wR_ixT, sl_tup, sl_lst, sl_scr, isi_non, sub_non_int, sub_non_bool, sub_non_str, sub_non_tuple, sub_non_list, sub_non_dict, isi_bl, sub_bl_int, sub_bl_bool, sub_bl_str, sub_bl_tuple, sub_bl_list, sub_bl_dict, isi_int, sub_int_int, sub_int_bool, sub_int_str, sub_int_tuple, sub_int_list, sub_int_dict, isi_str, sub_str_int, sub_str_bool, sub_str_str, sub_str_tuple, sub_str_list, sub_str_dict, isi_tup, sub_tup_int, sub_tup_bool, sub_tup_str, sub_tup_tuple, sub_tup_list, sub_tup_dict, isi_lst, sub_lst_int, sub_lst_bool, sub_lst_str, sub_lst_tuple, sub_lst_list, sub_lst_dict, isi_dct, sub_dct_int, sub_dct_bool, sub_dct_str, sub_dct_tuple, sub_dct_list, sub_dct_dict, List.any_cons, List.any_nil, Bool.or_false, Bool.or_true, Bool.false_or, Bool.true_or, wR_addT, wR_addL, wO_star1, wR_inK, wR_inKI, wR_ixK, wR_ixKI, lookK_hit, lookK_nil, Option.isSome_some, Option.isSome_none, seqF_tup, seqF_lst, seqF_scr, sz0, sz1, sz2, sz3, sz4, sz5, sz6, sz7, sz8, sz9, sz10, sz11, sz12, sz13, sz14, sz15, sz16, startE, isN, List.length_cons, List.length_nil, List.map_cons, List.map_nil, List.cons_append, List.nil_append, List.getElem?_cons_zero, List.getElem?_cons_succ, List.set_cons_zero, List.set_cons_succ, List.reduceReplicate, Nat.reduceAdd, Nat.reduceSub, Nat.zero_add, Option.map_some, decide_eq_true_eq, Bool.false_eq_true, Bool.not_true, Bool.not_false, if_false, if_true, true_and, and_true, belB]
theorem ispP (p : Pr) (a b : Int) (g : G) : F_is_pair [pairD p, .int a, .int b] g = .ok (.bl (belB p.1 a && belB p.2 b)) g := by
  refine wR_eq ?_
  unfold F_is_pair b_is_pair pairD
  simp (decide := true) only [wR_body, wR_ok, wR_stuck, wR_exc, wR_bind, wR_var, wR_c, wR_1, wR_2, wR_nilA, wR_consA, wR_ite, wR_tup, wR_lst, wR_cellL, wR_asB, wR_test, wR_andT, wR_orT, wR_notT, onB_bl, wR_andV, wR_orV, wR_notV, wR_if, wR_call, wR_chain, wR_slice, wR_noPart, wR_part, wR_okO, wS_next, wS_fNext, wS_seq, wS_ret, wS_retN, wS_expr, wS_asg, wO_set, wO_some, wO_nils, wO_conss, wO_tup, wS_if, wS_for, wS_store, wS_par, on1_e, on2_e, onI_e, wR_range1, wR_range2, onSeq_some, wR_seqI, wR_zip, wR_enum, wR_lc, wR_yes, wR_sub, wR_add, wR_mul, wR_mod, wR_div, wR_pow, wR_neg, wR_lt, wR_le, wR_gt, wR_ge, wR_abs, wR_intC, wR_eqI, wR_eqS, wR_eqB, wR_isN, wR_lenL, wR_lenT, wR_listL, wR_listT, wR_tupL, wR_tupT, onO_some, wR_ixL, wR_ixT, sl_tup, sl_lst, sl_scr, isi_non, sub_non_int, sub_non_bool, sub_non_str, sub_non_tuple, sub_non_list, sub_non_dict, isi_bl, sub_bl_int, sub_bl_bool, sub_bl_str, sub_bl_tuple, sub_bl_list, sub_bl_dict, isi_int, sub_int_int, sub_int_bool, sub_int_str, sub_int_tuple, sub_int_list, sub_int_dict, isi_str, sub_str_int, sub_str_bool, sub_str_str, sub_str_tuple, sub_str_list, sub_str_dict, isi_tup, sub_tup_int, sub_tup_bool, sub_tup_str, sub_tup_tuple, sub_tup_list, sub_tup_dict, isi_lst, sub_lst_int, sub_lst_bool, sub_lst_str, sub_lst_tuple, sub_lst_list, sub_lst_dict, isi_dct, sub_dct_int, sub_dct_bool, sub_dct_str, sub_dct_tuple, sub_dct_list, sub_dct_dict, List.any_cons, List.any_nil, Bool.or_false, Bool.or_true, Bool.false_or, Bool.true_or, wR_addT, wR_addL, wO_star1, wR_inK, wR_inKI, wR_ixK, wR_ixKI, lookK_hit, lookK_nil, Option.isSome_some, Option.isSome_none, seqF_tup, seqF_lst, seqF_scr, sz0, sz1, sz2, sz3, sz4, sz5, sz6, sz7, sz8, sz9, sz10, sz11, sz12, sz13, sz14, sz15, sz16, startE, isN, List.length_cons, List.length_nil, List.map_cons, List.map_nil, List.cons_append, List.nil_append, List.getElem?_cons_zero, List.getElem?_cons_succ, List.set_cons_zero, List.set_cons_succ, List.reduceReplicate, Nat.reduceAdd, Nat.reduceSub, Nat.zero_add, Option.map_some, decide_eq_true_eq, Bool.false_eq_true, Bool.not_true, Bool.not_false, if_false, if_true, true_and, and_true, eq_wR (isbI _ _ _), atI_zero, atI_one]
  cases belB p.1 a <;> simp [wR_ok, wR_stuck, wR_exc, wR_bind, wR_var, wR_c, wR_1, wR_2, wR_nilA, wR_consA, wR_ite, wR_tup, wR_lst, wR_cellL, wR_asB, wR_test, wR_andT, wR_orT, wR_notT, onB_bl, wR_andV, wR_orV, wR_notV, wR_if, wR_call, wR_chain, wR_slice, wR_noPart, wR_part, wR_okO, wS_next, wS_fNext, wS_seq, wS_ret, wS_retN, wS_expr, wS_asg, wO_set, wO_some, wO_nils, wO_conss, wO_tup, wS_if, wS_for, wS_store, wS_par, on1_e, on2_e, onI_e, wR_range1, wR_range2, onSeq_some, wR_seqI, wR_zip, wR_enum, wR_lc, wR_yes, wR_sub, wR_add, wR_mul, wR_mod, wR_div, wR_pow, wR_neg, wR_lt, wR_le, wR_gt, wR_ge, wR_abs, wR_intC, wR_eqI, wR_eqS, wR_eqB, wR_isN, wR_lenL, wR_lenT, wR_listL, wR_listT, wR_tupL, wR_tupT, onO_some, wR_ixL, wR_ixT, sl_tup, sl_lst, sl_scr, isi_non, sub_non_int, sub_non_bool, sub_non_str, sub_non_tuple, sub_non_list, sub_non_dict, isi_bl, sub_bl_int, sub_bl_bool, sub_bl_str, sub_bl_tuple, sub_bl_list, sub_bl_dict, isi_int, sub_int_int, sub_int_bool, sub_int_str, sub_int_tuple, sub_int_list, sub_int_dict, isi_str, sub_str_int, sub_str_bool, sub_str_str, sub_str_tuple, sub_str_list, sub_str_dict, isi_tup, sub_tup_int, sub_tup_bool, sub_tup_str, sub_tup_tuple, sub_tup_list, sub_tup_dict, isi_lst, sub_lst_int, sub_lst_bool, sub_lst_str, sub_lst_tuple, sub_lst_list, sub_lst_dict, isi_dct, sub_dct_int, sub_dct_bool, sub_dct_str, sub_dct_tuple, sub_dct_list, sub_dct_dict, List.any_cons, List.any_nil, Bool.or_false, Bool.or_true, Bool.false_or, Bool.true_or, wR_addT, wR_addL, wO_star1, wR_inK, wR_inKI, wR_ixK, wR_ixKI, lookK_hit, lookK_nil, Option.isSome_some, Option.isSome_none, seqF_tup, seqF_lst, seqF_scr, sz0, sz1, sz2, sz3, sz4, sz5, sz6, sz7, sz8, sz9, sz10, sz11, sz12, sz13, sz14, sz15, sz16, startE, isN, List.length_cons, List.length_nil, List.map_cons, List.map_nil, List.cons_append, List.nil_append, List.getElem?_cons_zero, List.getElem?_cons_succ, List.set_cons_zero, List.set_cons_succ, List.reduceReplicate, Nat.reduceAdd, Nat.reduceSub, Nat.zero_add, Option.map_some, decide_eq_true_eq, Bool.false_eq_true, Bool.not_true, Bool.not_false, if_false, if_true, true_and, and_true, eq_wR (isbI _ _ _), atI_zero, atI_one]
/-! ### tables -/
def rowOk (n : Nat) (r : List Int) : Bool := decide (r.length = n) && r.all fun e => belB e 2
def isTabB (t : List (List Int)) : Bool := decide (1 ≤ t.length ∧ t.length ≤ 5) && t.all (rowOk t.length)
theorem bools_ints (p : Int → Bool) : ∀ r : List Int, bools (r.map fun i => D.bl (p i)) = some (r.map p)
  | [] => rfl
  | d :: ds => by simp only [List.map_cons, bools, bools_ints p ds, Option.map_some]
theorem wR_allM {α : Type} (p : α → Bool) {r : List α} {g : G} {Q : D → G → Prop} {X : Exn → G → Prop} : wR (dAll [.lst (r.map fun i => D.bl (p i))] g) Q X = Q (.bl (r.all p)) g := by
  have hb : ∀ r : List α, bools (r.map fun i => D.bl (p i)) = some (r.map p) := fun r => by
    induction r with
    | nil => rfl
    | cons a b ih => simp only [List.map_cons, bools, ih, Option.map_some]
  unfold dAll
  simp only [hb, wR_ok]
  congr 2
  induction r with
  | nil => rfl
  | cons a b ih => simp
theorem compF_map {α : Type} {ft : D → G → Env → Option Env} {fif : Env → G → Res Bool} {fe : Env → G → Res D} {env : Env} {g : G} (i : α → D) (f : α → D) : ∀ xs : List α, (∀ x ∈ xs, ∃ e, ft (i x) g env = some e ∧ fif e g = .ok true g ∧ fe e g = .ok (f x) g) → compF ft fif fe env (xs.map i) g = .ok (xs.map f) g
  | [], _ => rfl
  | d :: ds, h => by
    obtain ⟨e, h1, h2, h3⟩ := h d (List.mem_cons_self ..)
    have h4 := compF_map i f ds fun x hx => h x (List.mem_cons_of_mem _ hx)
    simp only [List.map_cons, compF, h1, h2, h3, h4]
theorem gSet_at {i : Nat} {d : D} {g : G} {env : Env} (h : i < env.length) : gSet i d g env = some (env.set i (.val d)) := by
  unfold gSet
  rw [List.getElem?_eq_getElem h]
theorem istab (o ρ : List D → D) (ho : Sqn o) (hρ : Sqn ρ) (t : List (List Int)) (g : G) : F_is_table [tabD o ρ t] g = .ok (.bl (isTabB t)) g := by
  refine wR_eq ?_
  have hq : Sq (tabD o ρ t) (t.map (rowD ρ)) := ho.h _
  unfold F_is_table b_is_table
  simp only [wR_body, wR_ok, wR_stuck, wR_exc, wR_bind, wR_var, wR_c, wR_1, wR_2, wR_nilA, wR_consA, wR_ite, wR_tup, wR_lst, wR_cellL, wR_asB, wR_test, wR_andT, wR_orT, wR_notT, onB_bl, wR_andV, wR_orV, wR_notV, wR_if, wR_call, wR_chain, wR_slice, wR_noPart, wR_part, wR_okO, wS_next, wS_fNext, wS_seq, wS_ret, wS_retN, wS_expr, wS_asg, wO_set, wO_some, wO_nils, wO_conss, wO_tup, wS_if, wS_for, wS_store, wS_par, on1_e, on2_e, onI_e, wR_range1, wR_range2, onSeq_some, wR_seqI, wR_zip, wR_enum, wR_lc, wR_yes, wR_sub, wR_add, wR_mul, wR_mod, wR_div, wR_pow, wR_neg, wR_lt, wR_le, wR_gt, wR_ge, wR_abs, wR_intC, wR_eqI, wR_eqS, wR_eqB, wR_isN, wR_lenL, wR_lenT, wR_listL, wR_listT, wR_tupL, wR_tupT, onO_some, wR_ixL, wR_ixT, sl_tup, sl_lst, sl_scr, isi_non, sub_non_int, sub_non_bool, sub_non_str, sub_non_tuple, sub_non_list, sub_non_dict, isi_bl, sub_bl_int, sub_bl_bool, sub_bl_str, sub_bl_tuple, sub_bl_list, sub_bl_dict, isi_int, sub_int_int, sub_int_bool, sub_int_str, sub_int_tuple, sub_int_list, sub_int_dict, isi_str, sub_str_int, sub_str_bool, sub_str_str, sub_str_tuple, sub_str_list, sub_str_dict, isi_tup, sub_tup_int, sub_tup_bool, sub_tup_str, sub_tup_tuple, sub_tup_list, sub_tup_dict, isi_lst, sub_lst_int, sub_lst_bool, sub_lst_str, sub_lst_tuple, sub_lst_list, sub_lst_dict, isi_dct, sub_dct_int, sub_dct_bool, sub_dct_str, sub_dct_tuple, sub_dct_list, sub_dct_dict, List.any_cons, List.any_nil, Bool.or_false, Bool.or_true, Bool.false_or, Bool.true_or, wR_addT, wR_addL, wO_star1, wR_inK, wR_inKI, wR_ixK, wR_ixKI, lookK_hit, lookK_nil, Option.isSome_some, Option.isSome_none, seqF_tup, seqF_lst, seqF_scr, sz0, sz1, sz2, sz3, sz4, sz5, sz6, sz7, sz8, sz9, sz10, sz11, sz12, sz13, sz14, sz15, sz16, startE, isN, List.length_cons, List.length_nil, List.map_cons, List.map_nil, List.cons_append, List.nil_append, List.getElem?_cons_zero, List.getElem?_cons_succ, List.set_cons_zero, List.set_cons_succ, List.reduceReplicate, Nat.reduceAdd, Nat.reduceSub, Nat.zero_add, Option.map_some, decide_eq_true_eq, Bool.false_eq_true, Bool.not_true, Bool.not_false, if_false, if_true, true_and, and_true, wR_isiQ hq, wR_lenQ hq, hq.seq, List.length_map]
  by_cases h1 : (1 : Int) ≤ t.length
  case neg => simp [h1, isTabB, wR_ok, wR_stuck, wR_exc, wR_bind, wR_var, wR_c, wR_1, wR_2, wR_nilA, wR_consA, wR_ite, wR_tup, wR_lst, wR_cellL, wR_asB, wR_test, wR_andT, wR_orT, wR_notT, onB_bl, wR_andV, wR_orV, wR_notV, wR_if, wR_call, wR_chain, wR_slice, wR_noPart, wR_part, wR_okO, wS_next, wS_fNext, wS_seq, wS_ret, wS_retN, wS_expr, wS_asg, wO_set, wO_some, wO_nils, wO_conss, wO_tup, wS_if, wS_for, wS_store, wS_par, on1_e, on2_e, onI_e, wR_range1, wR_range2, onSeq_some, wR_seqI, wR_zip, wR_enum, wR_lc, wR_yes, wR_sub, wR_add, wR_mul, wR_mod, wR_div, wR_pow, wR_neg, wR_lt, wR_le, wR_gt, wR_ge, wR_abs, wR_intC, wR_eqI, wR_eqS, wR_eqB, wR_isN, wR_lenL, wR_lenT, wR_listL, wR_listT, wR_tupL, wR_tupT, onO_some, wR_ixL, wR_ixT, sl_tup, sl_lst, sl_scr, isi_non, sub_non_int, sub_non_bool, sub_non_str, sub_non_tuple, sub_non_list, sub_non_dict, isi_bl, sub_bl_int, sub_bl_bool, sub_bl_str, sub_bl_tuple, sub_bl_list, sub_bl_dict, isi_int, sub_int_int, sub_int_bool, sub_int_str, sub_int_tuple, sub_int_list, sub_int_dict, isi_str, sub_str_int, sub_str_bool, sub_str_str, sub_str_tuple, sub_str_list, sub_str_dict, isi_tup, sub_tup_int, sub_tup_bool, sub_tup_str, sub_tup_tuple, sub_tup_list, sub_tup_dict, isi_lst, sub_lst_int, sub_lst_bool, sub_lst_str, sub_lst_tuple, sub_lst_list, sub_lst_dict, isi_dct, sub_dct_int, sub_dct_bool, sub_dct_str, sub_dct_tuple, sub_dct_list, sub_dct_dict, List.any_cons, List.any_nil, Bool.or_false, Bool.or_true, Bool.false_or, Bool.true_or, wR_addT, wR_addL, wO_star1, wR_inK, wR_inKI, wR_ixK, wR_ixKI, lookK_hit, lookK_nil, Option.isSome_some, Option.isSome_none, seqF_tup, seqF_lst, seqF_scr, sz0, sz1, sz2, sz3, sz4, sz5, sz6, sz7, sz8, sz9, sz10, sz11, sz12, sz13, sz14, sz15, sz16, startE, isN, List.length_cons, List.length_nil, List.map_cons, List.map_nil, List.cons_append, List.nil_append, List.getElem?_cons_zero, List.getElem?_cons_succ, List.set_cons_zero, List.set_cons_succ, List.reduceReplicate, Nat.reduceAdd, Nat.reduceSub, Nat.zero_add, Option.map_some, decide_eq_true_eq, Bool.false_eq_true, Bool.not_true, Bool.not_false, if_false, if_true, true_and, and_true]; omega
  by_cases h5 : (t.length : Int) ≤ 5
  case neg => simp [h1, h5, isTabB, wR_ok, wR_stuck, wR_exc, wR_bind, wR_var, wR_c, wR_1, wR_2, wR_nilA, wR_consA, wR_ite, wR_tup, wR_lst, wR_cellL, wR_asB, wR_test, wR_andT, wR_orT, wR_notT, onB_bl, wR_andV, wR_orV, wR_notV, wR_if, wR_call, wR_chain, wR_slice, wR_noPart, wR_part, wR_okO, wS_next, wS_fNext, wS_seq, wS_ret, wS_retN, wS_expr, wS_asg, wO_set, wO_some, wO_nils, wO_conss, wO_tup, wS_if, wS_for, wS_store, wS_par, on1_e, on2_e, onI_e, wR_range1, wR_range2, onSeq_some, wR_seqI, wR_zip, wR_enum, wR_lc, wR_yes, wR_sub, wR_add, wR_mul, wR_mod, wR_div, wR_pow, wR_neg, wR_lt, wR_le, wR_gt, wR_ge, wR_abs, wR_intC, wR_eqI, wR_eqS, wR_eqB, wR_isN, wR_lenL, wR_lenT, wR_listL, wR_listT, wR_tupL, wR_tupT, onO_some, wR_ixL, wR_ixT, sl_tup, sl_lst, sl_scr, isi_non, sub_non_int, sub_non_bool, sub_non_str, sub_non_tuple, sub_non_list, sub_non_dict, isi_bl, sub_bl_int, sub_bl_bool, sub_bl_str, sub_bl_tuple, sub_bl_list, sub_bl_dict, isi_int, sub_int_int, sub_int_bool, sub_int_str, sub_int_tuple, sub_int_list, sub_int_dict, isi_str, sub_str_int, sub_str_bool, sub_str_str, sub_str_tuple, sub_str_list, sub_str_dict, isi_tup, sub_tup_int, sub_tup_bool, sub_tup_str, sub_tup_tuple, sub_tup_list, sub_tup_dict, isi_lst, sub_lst_int, sub_lst_bool, sub_lst_str, sub_lst_tuple, sub_lst_list, sub_lst_dict, isi_dct, sub_dct_int, sub_dct_bool, sub_dct_str, sub_dct_tuple, sub_dct_list, sub_dct_dict, List.any_cons, List.any_nil, Bool.or_false, Bool.or_true, Bool.false_or, Bool.true_or, wR_addT, wR_addL, wO_star1, wR_inK, wR_inKI, wR_ixK, wR_ixKI, lookK_hit, lookK_nil, Option.isSome_some, Option.isSome_none, seqF_tup, seqF_lst, seqF_scr, sz0, sz1, sz2, sz3, sz4, sz5, sz6, sz7, sz8, sz9, sz10, sz11, sz12, sz13, sz14, sz15, sz16, startE, isN, List.length_cons, List.length_nil, List.map_cons, List.map_nil, List.cons_append, List.nil_append, List.getElem?_cons_zero, List.getElem?_cons_succ, List.set_cons_zero, List.set_cons_succ, List.reduceReplicate, Nat.reduceAdd, Nat.reduceSub, Nat.zero_add, Option.map_some, decide_eq_true_eq, Bool.false_eq_true, Bool.not_true, Bool.not_false, if_false, if_true, true_and, and_true]; omega
  simp only [h1, h5, decide_true, wR_ok, wR_stuck, wR_exc, wR_bind, wR_var, wR_c, wR_1, wR_2, wR_nilA, wR_consA, wR_ite, wR_tup, wR_lst, wR_cellL, wR_asB, wR_test, wR_andT, wR_orT, wR_notT, onB_bl, wR_andV, wR_orV, wR_notV, wR_if, wR_call, wR_chain, wR_slice, wR_noPart, wR_part, wR_okO, wS_next, wS_fNext, wS_seq, wS_ret, wS_retN, wS_expr, wS_asg, wO_set, wO_some, wO_nils, wO_conss, wO_tup, wS_if, wS_for, wS_store, wS_par, on1_e, on2_e, onI_e, wR_range1, wR_range2, onSeq_some, wR_seqI, wR_zip, wR_enum, wR_lc, wR_yes, wR_sub, wR_add, wR_mul, wR_mod, wR_div, wR_pow, wR_neg, wR_lt, wR_le, wR_gt, wR_ge, wR_abs, wR_intC, wR_eqI, wR_eqS, wR_eqB, wR_isN, wR_lenL, wR_lenT, wR_listL, wR_listT, wR_tupL, wR_tupT, onO_some, wR_ixL, wR_ixT, sl_tup, sl_lst, sl_scr, isi_non, sub_non_int, sub_non_bool, sub_non_str, sub_non_tuple, sub_non_list, sub_non_dict, isi_bl, sub_bl_int, sub_bl_bool, sub_bl_str, sub_bl_tuple, sub_bl_list, sub_bl_dict, isi_int, sub_int_int, sub_int_bool, sub_int_str, sub_int_tuple, sub_int_list, sub_int_dict, isi_str, sub_str_int, sub_str_bool, sub_str_str, sub_str_tuple, sub_str_list, sub_str_dict, isi_tup, sub_tup_int, sub_tup_bool, sub_tup_str, sub_tup_tuple, sub_tup_list, sub_tup_dict, isi_lst, sub_lst_int, sub_lst_bool, sub_lst_str, sub_lst_tuple, sub_lst_list, sub_lst_dict, isi_dct, sub_dct_int, sub_dct_bool, sub_dct_str, sub_dct_tuple, sub_dct_list, sub_dct_dict, List.any_cons, List.any_nil, Bool.or_false, Bool.or_true, Bool.false_or, Bool.true_or, wR_addT, wR_addL, wO_star1, wR_inK, wR_inKI, wR_ixK, wR_ixKI, lookK_hit, lookK_nil, Option.isSome_some, Option.isSome_none, seqF_tup, seqF_lst, seqF_scr, sz0, sz1, sz2, sz3, sz4, sz5, sz6, sz7, sz8, sz9, sz10, sz11, sz12, sz13, sz14, sz15, sz16, startE, isN, List.length_cons, List.length_nil, List.map_cons, List.map_nil, List.cons_append, List.nil_append, List.getElem?_cons_zero, List.getElem?_cons_succ, List.set_cons_zero, List.set_cons_succ, List.reduceReplicate, Nat.reduceAdd, Nat.reduceSub, Nat.zero_add, Option.map_some, decide_eq_true_eq, Bool.false_eq_true, Bool.not_true, Bool.not_false, if_false, if_true, true_and, and_true]
  refine wS_loop (fun ds env g' => g' = g ∧ ∃ t1 t2, t = t1 ++ t2 ∧ ds = t2.map (rowD ρ) ∧ t1.all (rowOk t.length) = true ∧ ∃ s1 s2, env = [.val (tabD o ρ t), s1, s2]) _ _ _ ⟨rfl, [], t, rfl, rfl, rfl, _, _, rfl⟩ ?_ ?_
  · rintro d ds env g' ⟨rfl, t1, t2, ht, hd, ha, s1, s2, rfl⟩
    cases t2 with
    | nil => cases hd
    | cons r t2 =>
      simp only [List.map_cons, List.cons.injEq] at hd
      obtain ⟨rfl, rfl⟩ := hd
      have hr : Sq (rowD ρ r) (r.map D.int) := hρ.h _
      simp only [wR_ok, wR_stuck, wR_exc, wR_bind, wR_var, wR_c, wR_1, wR_2, wR_nilA, wR_consA, wR_ite, wR_tup, wR_lst, wR_cellL, wR_asB, wR_test, wR_andT, wR_orT, wR_notT, onB_bl, wR_andV, wR_orV, wR_notV, wR_if, wR_call, wR_chain, wR_slice, wR_noPart, wR_part, wR_okO, wS_next, wS_fNext, wS_seq, wS_ret, wS_retN, wS_expr, wS_asg, wO_set, wO_some, wO_nils, wO_conss, wO_tup, wS_if, wS_for, wS_store, wS_par, on1_e, on2_e, onI_e, wR_range1, wR_range2, onSeq_some, wR_seqI, wR_zip, wR_enum, wR_lc, wR_yes, wR_sub, wR_add, wR_mul, wR_mod, wR_div, wR_pow, wR_neg, wR_lt, wR_le, wR_gt, wR_ge, wR_abs, wR_intC, wR_eqI, wR_eqS, wR_eqB, wR_isN, wR_lenL, wR_lenT, wR_listL, wR_listT, wR_tupL, wR_tupT, onO_some, wR_ixL, wR_ixT, sl_tup, sl_lst, sl_scr, isi_non, sub_non_int, sub_non_bool, sub_non_str, sub_non_tuple, sub_non_list, sub_non_dict, isi_bl, sub_bl_int, sub_bl_bool, sub_bl_str, sub_bl_tuple, sub_bl_list, sub_bl_dict, isi_int, sub_int_int, sub_int_bool, sub_int_str, sub_int_tuple, sub_int_list, sub_int_dict, isi_str, sub_str_int, sub_str_bool, sub_str_str, sub_str_tuple, sub_str_list, sub_str_dict, isi_tup, sub_tup_int, sub_tup_bool, sub_tup_str, sub_tup_tuple, sub_tup_list, sub_tup_dict, isi_lst, sub_lst_int, sub_lst_bool, sub_lst_str, sub_lst_tuple, sub_lst_list, sub_lst_dict, isi_dct, sub_dct_int, sub_dct_bool, sub_dct_str, sub_dct_tuple, sub_dct_list, sub_dct_dict, List.any_cons, List.any_nil, Bool.or_false, Bool.or_true, Bool.false_or, Bool.true_or, wR_addT, wR_addL, wO_star1, wR_inK, wR_inKI, wR_ixK, wR_ixKI, lookK_hit, lookK_nil, Option.isSome_some, Option.isSome_none, seqF_tup, seqF_lst, seqF_scr, sz0, sz1, sz2, sz3, sz4, sz5, sz6, sz7, sz8, sz9, sz10, sz11, sz12, sz13, sz14, sz15, sz16, startE, isN, List.length_cons, List.length_nil, List.map_cons, List.map_nil, List.cons_append, List.nil_append, List.getElem?_cons_zero, List.getElem?_cons_succ, List.set_cons_zero, List.set_cons_succ, List.reduceReplicate, Nat.reduceAdd, Nat.reduceSub, Nat.zero_add, Option.map_some, decide_eq_true_eq, Bool.false_eq_true, Bool.not_true, Bool.not_false, if_false, if_true, true_and, and_true, wR_isiQ hr, wR_lenQ hr, wR_lenQ hq, hr.seq, List.length_map]
      by_cases hl : r.length = t.length
      case neg =>
        have hl' : ¬ ((r.length : Int) = t.length) := by omega
        have : isTabB t = false := by
          unfold isTabB
          rw [ht, List.all_append, List.all_cons]
          simp [rowOk, ← ht, hl]
        simp [hl', this, wR_ok, wR_stuck, wR_exc, wR_bind, wR_var, wR_c, wR_1, wR_2, wR_nilA, wR_consA, wR_ite, wR_tup, wR_lst, wR_cellL, wR_asB, wR_test, wR_andT, wR_orT, wR_notT, onB_bl, wR_andV, wR_orV, wR_notV, wR_if, wR_call, wR_chain, wR_slice, wR_noPart, wR_part, wR_okO, wS_next, wS_fNext, wS_seq, wS_ret, wS_retN, wS_expr, wS_asg, wO_set, wO_some, wO_nils, wO_conss, wO_tup, wS_if, wS_for, wS_store, wS_par, on1_e, on2_e, onI_e, wR_range1, wR_range2, onSeq_some, wR_seqI, wR_zip, wR_enum, wR_lc, wR_yes, wR_sub, wR_add, wR_mul, wR_mod, wR_div, wR_pow, wR_neg, wR_lt, wR_le, wR_gt, wR_ge, wR_abs, wR_intC, wR_eqI, wR_eqS, wR_eqB, wR_isN, wR_lenL, wR_lenT, wR_listL, wR_listT, wR_tupL, wR_tupT, onO_some, wR_ixL, wR_ixT, sl_tup, sl_lst, sl_scr, isi_non, sub_non_int, sub_non_bool, sub_non_str, sub_non_tuple, sub_non_list, sub_non_dict, isi_bl, sub_bl_int, sub_bl_bool, sub_bl_str, sub_bl_tuple, sub_bl_list, sub_bl_dict, isi_int, sub_int_int, sub_int_bool, sub_int_str, sub_int_tuple, sub_int_list, sub_int_dict, isi_str, sub_str_int, sub_str_bool, sub_str_str, sub_str_tuple, sub_str_list, sub_str_dict, isi_tup, sub_tup_int, sub_tup_bool, sub_tup_str, sub_tup_tuple, sub_tup_list, sub_tup_dict, isi_lst, sub_lst_int, sub_lst_bool, sub_lst_str, sub_lst_tuple, sub_lst_list, sub_lst_dict, isi_dct, sub_dct_int, sub_dct_bool, sub_dct_str, sub_dct_tuple, sub_dct_list, sub_dct_dict, List.any_cons, List.any_nil, Bool.or_false, Bool.or_true, Bool.false_or, Bool.true_or, wR_addT, wR_addL, wO_star1, wR_inK, wR_inKI, wR_ixK, wR_ixKI, lookK_hit, lookK_nil, Option.isSome_some, Option.isSome_none, seqF_tup, seqF_lst, seqF_scr, sz0, sz1, sz2, sz3, sz4, sz5, sz6, sz7, sz8, sz9, sz10, sz11, sz12, sz13, sz14, sz15, sz16, startE, isN, List.length_cons, List.length_nil, List.map_cons, List.map_nil, List.cons_append, List.nil_append, List.getElem?_cons_zero, List.getElem?_cons_succ, List.set_cons_zero, List.set_cons_succ, List.reduceReplicate, Nat.reduceAdd, Nat.reduceSub, Nat.zero_add, Option.map_some, decide_eq_true_eq, Bool.false_eq_true, Bool.not_true, Bool.not_false, if_false, if_true, true_and, and_true]
      have hsz : (5 : Nat) ≤ sizeLine := by decide
      simp only [hl, decide_true, wR_ok, wR_stuck, wR_exc, wR_bind, wR_var, wR_c, wR_1, wR_2, wR_nilA, wR_consA, wR_ite, wR_tup, wR_lst, wR_cellL, wR_asB, wR_test, wR_andT, wR_orT, wR_notT, onB_bl, wR_andV, wR_orV, wR_notV, wR_if, wR_call, wR_chain, wR_slice, wR_noPart, wR_part, wR_okO, wS_next, wS_fNext, wS_seq, wS_ret, wS_retN, wS_expr, wS_asg, wO_set, wO_some, wO_nils, wO_conss, wO_tup, wS_if, wS_for, wS_store, wS_par, on1_e, on2_e, onI_e, wR_range1, wR_range2, onSeq_some, wR_seqI, wR_zip, wR_enum, wR_lc, wR_yes, wR_sub, wR_add, wR_mul, wR_mod, wR_div, wR_pow, wR_neg, wR_lt, wR_le, wR_gt, wR_ge, wR_abs, wR_intC, wR_eqI, wR_eqS, wR_eqB, wR_isN, wR_lenL, wR_lenT, wR_listL, wR_listT, wR_tupL, wR_tupT, onO_some, wR_ixL, wR_ixT, sl_tup, sl_lst, sl_scr, isi_non, sub_non_int, sub_non_bool, sub_non_str, sub_non_tuple, sub_non_list, sub_non_dict, isi_bl, sub_bl_int, sub_bl_bool, sub_bl_str, sub_bl_tuple, sub_bl_list, sub_bl_dict, isi_int, sub_int_int, sub_int_bool, sub_int_str, sub_int_tuple, sub_int_list, sub_int_dict, isi_str, sub_str_int, sub_str_bool, sub_str_str, sub_str_tuple, sub_str_list, sub_str_dict, isi_tup, sub_tup_int, sub_tup_bool, sub_tup_str, sub_tup_tuple, sub_tup_list, sub_tup_dict, isi_lst, sub_lst_int, sub_lst_bool, sub_lst_str, sub_lst_tuple, sub_lst_list, sub_lst_dict, isi_dct, sub_dct_int, sub_dct_bool, sub_dct_str, sub_dct_tuple, sub_dct_list, sub_dct_dict, List.any_cons, List.any_nil, Bool.or_false, Bool.or_true, Bool.false_or, Bool.true_or, wR_addT, wR_addL, wO_star1, wR_inK, wR_inKI, wR_ixK, wR_ixKI, lookK_hit, lookK_nil, Option.isSome_some, Option.isSome_none, seqF_tup, seqF_lst, seqF_scr, sz0, sz1, sz2, sz3, sz4, sz5, sz6, sz7, sz8, sz9, sz10, sz11, sz12, sz13, sz14, sz15, sz16, startE, isN, List.length_cons, List.length_nil, List.map_cons, List.map_nil, List.cons_append, List.nil_append, List.getElem?_cons_zero, List.getElem?_cons_succ, List.set_cons_zero, List.set_cons_succ, List.reduceReplicate, Nat.reduceAdd, Nat.reduceSub, Nat.zero_add, Option.map_some, decide_eq_true_eq, Bool.false_eq_true, Bool.not_true, Bool.not_false, if_false, if_true, true_and, and_true]
      refine ⟨by omega, ?_⟩
      rw [eq_wR (compF_map D.int (fun e => .bl (belB e 2)) r fun x hx => ⟨_, gSet_at (by simp [wipeE]), rfl, wR_eq (by simp only [wR_ok, wR_stuck, wR_exc, wR_bind, wR_var, wR_c, wR_1, wR_2, wR_nilA, wR_consA, wR_ite, wR_tup, wR_lst, wR_cellL, wR_asB, wR_test, wR_andT, wR_orT, wR_notT, onB_bl, wR_andV, wR_orV, wR_notV, wR_if, wR_call, wR_chain, wR_slice, wR_noPart, wR_part, wR_okO, wS_next, wS_fNext, wS_seq, wS_ret, wS_retN, wS_expr, wS_asg, wO_set, wO_some, wO_nils, wO_conss, wO_tup, wS_if, wS_for, wS_store, wS_par, on1_e, on2_e, onI_e, wR_range1, wR_range2, onSeq_some, wR_seqI, wR_zip, wR_enum, wR_lc, wR_yes, wR_sub, wR_add, wR_mul, wR_mod, wR_div, wR_pow, wR_neg, wR_lt, wR_le, wR_gt, wR_ge, wR_abs, wR_intC, wR_eqI, wR_eqS, wR_eqB, wR_isN, wR_lenL, wR_lenT, wR_listL, wR_listT, wR_tupL, wR_tupT, onO_some, wR_ixL, wR_ixT, sl_tup, sl_lst, sl_scr, isi_non, sub_non_int, sub_non_bool, sub_non_str, sub_non_tuple, sub_non_list, sub_non_dict, isi_bl, sub_bl_int, sub_bl_bool, sub_bl_str, sub_bl_tuple, sub_bl_list, sub_bl_dict, isi_int, sub_int_int, sub_int_bool, sub_int_str, sub_int_tuple, sub_int_list, sub_int_dict, isi_str, sub_str_int, sub_str_bool, sub_str_str, sub_str_tuple, sub_str_list, sub_str_dict, isi_tup, sub_tup_int, sub_tup_bool, sub_tup_str, sub_tup_tuple, sub_tup_list, sub_tup_dict, isi_lst, sub_lst_int, sub_lst_bool, sub_lst_str, sub_lst_tuple, sub_lst_list, sub_lst_dict, isi_dct, sub_dct_int, sub_dct_bool, sub_dct_str, sub_dct_tuple, sub_dct_list, sub_dct_dict, List.any_cons, List.any_nil, Bool.or_false, Bool.or_true, Bool.false_or, Bool.true_or, wR_addT, wR_addL, wO_star1, wR_inK, wR_inKI, wR_ixK, wR_ixKI, lookK_hit, lookK_nil, Option.isSome_some, Option.isSome_none, seqF_tup, seqF_lst, seqF_scr, sz0, sz1, sz2, sz3, sz4, sz5, sz6, sz7, sz8, sz9, sz10, sz11, sz12, sz13, sz14, sz15, sz16, startE, isN, List.length_cons, List.length_nil, List.map_cons, List.map_nil, List.cons_append, List.nil_append, List.getElem?_cons_zero, List.getElem?_cons_succ, List.set_cons_zero, List.set_cons_succ, List.reduceReplicate, Nat.reduceAdd, Nat.reduceSub, Nat.zero_add, Option.map_some, decide_eq_true_eq, Bool.false_eq_true, Bool.not_true, Bool.not_false, if_false, if_true, true_and, and_true, wipeE, eq_wR (isbI _ _ _)])⟩), wR_allM]
      by_cases hb : r.all (fun e => belB e 2) = true
      · simp only [hb, wR_ok, wR_stuck, wR_exc, wR_bind, wR_var, wR_c, wR_1, wR_2, wR_nilA, wR_consA, wR_ite, wR_tup, wR_lst, wR_cellL, wR_asB, wR_test, wR_andT, wR_orT, wR_notT, onB_bl, wR_andV, wR_orV, wR_notV, wR_if, wR_call, wR_chain, wR_slice, wR_noPart, wR_part, wR_okO, wS_next, wS_fNext, wS_seq, wS_ret, wS_retN, wS_expr, wS_asg, wO_set, wO_some, wO_nils, wO_conss, wO_tup, wS_if, wS_for, wS_store, wS_par, on1_e, on2_e, onI_e, wR_range1, wR_range2, onSeq_some, wR_seqI, wR_zip, wR_enum, wR_lc, wR_yes, wR_sub, wR_add, wR_mul, wR_mod, wR_div, wR_pow, wR_neg, wR_lt, wR_le, wR_gt, wR_ge, wR_abs, wR_intC, wR_eqI, wR_eqS, wR_eqB, wR_isN, wR_lenL, wR_lenT, wR_listL, wR_listT, wR_tupL, wR_tupT, onO_some, wR_ixL, wR_ixT, sl_tup, sl_lst, sl_scr, isi_non, sub_non_int, sub_non_bool, sub_non_str, sub_non_tuple, sub_non_list, sub_non_dict, isi_bl, sub_bl_int, sub_bl_bool, sub_bl_str, sub_bl_tuple, sub_bl_list, sub_bl_dict, isi_int, sub_int_int, sub_int_bool, sub_int_str, sub_int_tuple, sub_int_list, sub_int_dict, isi_str, sub_str_int, sub_str_bool, sub_str_str, sub_str_tuple, sub_str_list, sub_str_dict, isi_tup, sub_tup_int, sub_tup_bool, sub_tup_str, sub_tup_tuple, sub_tup_list, sub_tup_dict, isi_lst, sub_lst_int, sub_lst_bool, sub_lst_str, sub_lst_tuple, sub_lst_list, sub_lst_dict, isi_dct, sub_dct_int, sub_dct_bool, sub_dct_str, sub_dct_tuple, sub_dct_list, sub_dct_dict, List.any_cons, List.any_nil, Bool.or_false, Bool.or_true, Bool.false_or, Bool.true_or, wR_addT, wR_addL, wO_star1, wR_inK, wR_inKI, wR_ixK, wR_ixKI, lookK_hit, lookK_nil, Option.isSome_some, Option.isSome_none, seqF_tup, seqF_lst, seqF_scr, sz0, sz1, sz2, sz3, sz4, sz5, sz6, sz7, sz8, sz9, sz10, sz11, sz12, sz13, sz14, sz15, sz16, startE, isN, List.length_cons, List.length_nil, List.map_cons, List.map_nil, List.cons_append, List.nil_append, List.getElem?_cons_zero, List.getElem?_cons_succ, List.set_cons_zero, List.set_cons_succ, List.reduceReplicate, Nat.reduceAdd, Nat.reduceSub, Nat.zero_add, Option.map_some, decide_eq_true_eq, Bool.false_eq_true, Bool.not_true, Bool.not_false, if_false, if_true, true_and, and_true]
        refine ⟨t1 ++ [r], t2, by simp [ht], rfl, ?_, _, _, rfl⟩
        simp [ha, rowOk, hl, hb]
      · have hb' : r.all (fun e => belB e 2) = false := by simpa using hb
        have : isTabB t = false := by
          unfold isTabB
          rw [ht, List.all_append, List.all_cons]
          simp [rowOk, ← ht, hl, hb']
        simp only [hb', this, wR_ok, wR_stuck, wR_exc, wR_bind, wR_var, wR_c, wR_1, wR_2, wR_nilA, wR_consA, wR_ite, wR_tup, wR_lst, wR_cellL, wR_asB, wR_test, wR_andT, wR_orT, wR_notT, onB_bl, wR_andV, wR_orV, wR_notV, wR_if, wR_call, wR_chain, wR_slice, wR_noPart, wR_part, wR_okO, wS_next, wS_fNext, wS_seq, wS_ret, wS_retN, wS_expr, wS_asg, wO_set, wO_some, wO_nils, wO_conss, wO_tup, wS_if, wS_for, wS_store, wS_par, on1_e, on2_e, onI_e, wR_range1, wR_range2, onSeq_some, wR_seqI, wR_zip, wR_enum, wR_lc, wR_yes, wR_sub, wR_add, wR_mul, wR_mod, wR_div, wR_pow, wR_neg, wR_lt, wR_le, wR_gt, wR_ge, wR_abs, wR_intC, wR_eqI, wR_eqS, wR_eqB, wR_isN, wR_lenL, wR_lenT, wR_listL, wR_listT, wR_tupL, wR_tupT, onO_some, wR_ixL, wR_ixT, sl_tup, sl_lst, sl_scr, isi_non, sub_non_int, sub_non_bool, sub_non_str, sub_non_tuple, sub_non_list, sub_non_dict, isi_bl, sub_bl_int, sub_bl_bool, sub_bl_str, sub_bl_tuple, sub_bl_list, sub_bl_dict, isi_int, sub_int_int, sub_int_bool, sub_int_str, sub_int_tuple, sub_int_list, sub_int_dict, isi_str, sub_str_int, sub_str_bool, sub_str_str, sub_str_tuple, sub_str_list, sub_str_dict, isi_tup, sub_tup_int, sub_tup_bool, sub_tup_str, sub_tup_tuple, sub_tup_list, sub_tup_dict, isi_lst, sub_lst_int, sub_lst_bool, sub_lst_str, sub_lst_tuple, sub_lst_list, sub_lst_dict, isi_dct, sub_dct_int, sub_dct_bool, sub_dct_str, sub_dct_tuple, sub_dct_list, sub_dct_dict, List.any_cons, List.any_nil, Bool.or_false, Bool.or_true, Bool.false_or, Bool.true_or, wR_addT, wR_addL, wO_star1, wR_inK, wR_inKI, wR_ixK, wR_ixKI, lookK_hit, lookK_nil, Option.isSome_some, Option.isSome_none, seqF_tup, seqF_lst, seqF_scr, sz0, sz1, sz2, sz3, sz4, sz5, sz6, sz7, sz8, sz9, sz10, sz11, sz12, sz13, sz14, sz15, sz16, startE, isN, List.length_cons, List.length_nil, List.map_cons, List.map_nil, List.cons_append, List.nil_append, List.getElem?_cons_zero, List.getElem?_cons_succ, List.set_cons_zero, List.set_cons_succ, List.reduceReplicate, Nat.reduceAdd, Nat.reduceSub, Nat.zero_add, Option.map_some, decide_eq_true_eq, Bool.false_eq_true, Bool.not_true, Bool.not_false, if_false, if_true, true_and, and_true]
  · rintro env g' ⟨rfl, t1, t2, ht, hd, ha, s1, s2, rfl⟩
    cases t2 with
    | cons r t2 => cases hd
    | nil =>
      have : isTabB t = true := by
        unfold isTabB
        rw [List.append_nil] at ht
        rw [ht]
        rw [ht] at ha h1 h5
        simp only [ha, Bool.and_true, decide_eq_true_eq]; omega
      simp only [wR_ok, wR_stuck, wR_exc, wR_bind, wR_var, wR_c, wR_1, wR_2, wR_nilA, wR_consA, wR_ite, wR_tup, wR_lst, wR_cellL, wR_asB, wR_test, wR_andT, wR_orT, wR_notT, onB_bl, wR_andV, wR_orV, wR_notV, wR_if, wR_call, wR_chain, wR_slice, wR_noPart, wR_part, wR_okO, wS_next, wS_fNext, wS_seq, wS_ret, wS_retN, wS_expr, wS_asg, wO_set, wO_some, wO_nils, wO_conss, wO_tup, wS_if, wS_for, wS_store, wS_par, on1_e, on2_e, onI_e, wR_range1, wR_range2, onSeq_some, wR_seqI, wR_zip, wR_enum, wR_lc, wR_yes, wR_sub, wR_add, wR_mul, wR_mod, wR_div, wR_pow, wR_neg, wR_lt, wR_le, wR_gt, wR_ge, wR_abs, wR_intC, wR_eqI, wR_eqS, wR_eqB, wR_isN, wR_lenL, wR_lenT, wR_listL, wR_listT, wR_tupL, wR_tupT, onO_some, wR_ixL, wR_ixT, sl_tup, sl_lst, sl_scr, isi_non, sub_non_int, sub_non_bool, sub_non_str, sub_non_tuple, sub_non_list, sub_non_dict, isi_bl, sub_bl_int, sub_bl_bool, sub_bl_str, sub_bl_tuple, sub_bl_list, sub_bl_dict, isi_int, sub_int_int, sub_int_bool, sub_int_str, sub_int_tuple, sub_int_list, sub_int_dict, isi_str, sub_str_int, sub_str_bool, sub_str_str, sub_str_tuple, sub_str_list, sub_str_dict, isi_tup, sub_tup_int, sub_tup_bool, sub_tup_str, sub_tup_tuple, sub_tup_list, sub_tup_dict, isi_lst, sub_lst_int, sub_lst_bool, sub_lst_str, sub_lst_tuple, sub_lst_list, sub_lst_dict, isi_dct, sub_dct_int, sub_dct_bool, sub_dct_str, sub_dct_tuple, sub_dct_list, sub_dct_dict, List.any_cons, List.any_nil, Bool.or_false, Bool.or_true, Bool.false_or, Bool.true_or, wR_addT, wR_addL, wO_star1, wR_inK, wR_inKI, wR_ixK, wR_ixKI, lookK_hit, lookK_nil, Option.isSome_some, Option.isSome_none, seqF_tup, seqF_lst, seqF_scr, sz0, sz1, sz2, sz3, sz4, sz5, sz6, sz7, sz8, sz9, sz10, sz11, sz12, sz13, sz14, sz15, sz16, startE, isN, List.length_cons, List.length_nil, List.map_cons, List.map_nil, List.cons_append, List.nil_append, List.getElem?_cons_zero, List.getElem?_cons_succ, List.set_cons_zero, List.set_cons_succ, List.reduceReplicate, Nat.reduceAdd, Nat.reduceSub, Nat.zero_add, Option.map_some, decide_eq_true_eq, Bool.false_eq_true, Bool.not_true, Bool.not_false, if_false, if_true, true_and, and_true, this]
/-! what breaks the order of a table -/
def badT (t : List (List Int)) (n : Nat) (r : List Int) (j : Nat) (x : Int) : Bool :=
  ((decide (n = 0) || decide (j = 0)) && decide (x ≠ 0)) || (decide (0 < n) && decide (x < (t.getD (n - 1) []).getD j 0)) || (decide (0 < j) && decide (x < r.getD (j - 1) 0))
def scanR (bad : Nat → Int → Bool) : Nat → List Int → Option Nat
  | _, [] => none
  | j, x :: xs => if bad j x = true then some j else scanR bad (j + 1) xs
def scanT (bad : Nat → List Int → Nat → Int → Bool) : Nat → List (List Int) → Option (Nat × Nat)
  | _, [] => none
  | n, r :: rs => match scanR (bad n r) 0 r with
    | some j => some (n, j)
    | none => scanT bad (n + 1) rs
def fallT (t : List (List Int)) : Option (Nat × Nat) := scanT (badT t) 0 t
def fallD : Option (Nat × Nat) → D
  | none => .non
  | some (i, j) => .tup [.int i, .int j]
theorem atI_nat1 {α : Type} {xs : List α} {j : Nat} (h : 0 < j) : atI xs ((j : Int) - 1) = xs[j - 1]? := by
  have : ((j : Int) - 1) = ((j - 1 : Nat) : Int) := by omega
  rw [this, atI_nat]
theorem isfall_in (t : List (List Int)) (o ρ : List D → D) (ho : Sqn o) (hρ : Sqn ρ) (hsq : ∀ r ∈ t, r.length = t.length) (n : Nat) (r : List Int) (hr : t[n]? = some r) (E : Es) (g : G) : ∀ (xs : List Int) (j : Nat), r.drop j = xs → ∀ s3 s4,
    (match scanR (badT t n r) j xs with
      | some k => E.R (.tup [.int n, .int k]) g
      | none => ∀ s3 s4, E.N [.val (tabD o ρ t), .val (.int n), .val (rowD ρ r), s3, s4] g) →
    wS (loopF (gTupF (gConss (gSet 3) (gConss (gSet 4) gNils)) 2) (fSeq (fIfS (fAndT (fOrT (fTest (f2 (dEq false) (fVar 1) (fC (.int 0)))) (fTest (f2 (dEq false) (fVar 3) (fC (.int 0))))) (fTest (f2 (dEq true) (fVar 4) (fC (.int 0))))) (fRet (fTup (fConsA (fVar 1) (fConsA (fVar 3) fNilA)))) fNext) (fIfS (fOrT (fAndT (fTest (f2 dGt (fVar 1) (fC (.int 0)))) (fTest (f2 dLt (fVar 4) (f2 dIx (f2 dIx (fVar 0) (f2 dSub (fVar 1) (fC (.int 1)))) (fVar 3))))) (fAndT (fTest (f2 dGt (fVar 3) (fC (.int 0)))) (fTest (f2 dLt (fVar 4) (f2 dIx (fVar 2) (f2 dSub (fVar 3) (fC (.int 1)))))))) (fRet (fTup (fConsA (fVar 1) (fConsA (fVar 3) fNilA)))) fNext))
      (enumD j (xs.map D.int)) [.val (tabD o ρ t), .val (.int n), .val (rowD ρ r), s3, s4] g) E
  | [], j, _, s3, s4, h => by
    show E.N _ _
    exact h _ _
  | x :: xs, j, hd, s3, s4, h => by
    have hj : r[j]? = some x := by
      have : (r.drop j)[0]? = some x := by rw [hd]; rfl
      simpa using this
    have hjl : j < r.length := (List.getElem?_eq_some_iff.mp hj).1
    have hd2 : r.drop (j + 1) = xs := by
      have : r.drop (j + 1) = (r.drop j).drop 1 := by rw [List.drop_drop]
      rw [this, hd]; rfl
    have hnl : n < t.length := (List.getElem?_eq_some_iff.mp hr).1
    have hrl : r.length = t.length := hsq _ (List.mem_of_getElem? hr)
    have hq : Sq (tabD o ρ t) (t.map (rowD ρ)) := ho.h _
    have hqr : Sq (rowD ρ r) (r.map D.int) := hρ.h _
    have e1 : badT t n r j x = true → scanR (badT t n r) j (x :: xs) = some j := fun e => by unfold scanR; rw [if_pos e]
    have e2 : badT t n r j x = false → scanR (badT t n r) j (x :: xs) = scanR (badT t n r) (j + 1) xs := fun e => by
      show (if badT t n r j x = true then some j else _) = _
      rw [e, if_neg Bool.false_ne_true]
    have fin1 : badT t n r j x = true → E.R (.tup [.int n, .int j]) g := fun e => by rw [e1 e] at h; exact h
    have fin2 : badT t n r j x = false → ∀ s3 s4, wS (loopF (gTupF (gConss (gSet 3) (gConss (gSet 4) gNils)) 2) _ (enumD (j + 1) (xs.map D.int)) [.val (tabD o ρ t), .val (.int n), .val (rowD ρ r), s3, s4] g) E := fun e s3 s4 =>
      isfall_in t o ρ ho hρ hsq n r hr E g xs (j + 1) hd2 s3 s4 (by rw [e2 e] at h; exact h)
    rw [List.map_cons, enumD, wS_loop_cons]
    have up : 0 < n → ∃ q, t[n - 1]? = some q ∧ j < q.length := fun hn => by
      have : n - 1 < t.length := by omega
      refine ⟨t[n - 1], List.getElem?_eq_getElem this, ?_⟩
      rw [hsq _ (List.getElem_mem this)]; omega
    have hz : ∀ k : Nat, decide ((k : Int) = 0) = decide (k = 0) := fun k => by by_cases e : k = 0 <;> simp [e]
    have hz2 : ∀ k : Nat, decide ((0 : Int) < (k : Int)) = decide (0 < k) := fun k => by by_cases e : 0 < k <;> simp [e]
    simp only [wR_ok, wR_stuck, wR_exc, wR_bind, wR_var, wR_c, wR_1, wR_2, wR_nilA, wR_consA, wR_ite, wR_tup, wR_lst, wR_cellL, wR_asB, wR_test, wR_andT, wR_orT, wR_notT, onB_bl, wR_andV, wR_orV, wR_notV, wR_if, wR_call, wR_chain, wR_slice, wR_noPart, wR_part, wR_okO, wS_next, wS_fNext, wS_seq, wS_ret, wS_retN, wS_expr, wS_asg, wO_set, wO_some, wO_nils, wO_conss, wO_tup, wS_if, wS_for, wS_store, wS_par, on1_e, on2_e, onI_e, wR_range1, wR_range2, onSeq_some, wR_seqI, wR_zip, wR_enum, wR_lc, wR_yes, wR_sub, wR_add, wR_mul, wR_mod, wR_div, wR_pow, wR_neg, wR_lt, wR_le, wR_gt, wR_ge, wR_abs, wR_intC, wR_eqI, wR_eqS, wR_eqB, wR_isN, wR_lenL, wR_lenT, wR_listL, wR_listT, wR_tupL, wR_tupT, onO_some, wR_ixL, wR_ixT, sl_tup, sl_lst, sl_scr, isi_non, sub_non_int, sub_non_bool, sub_non_str, sub_non_tuple, sub_non_list, sub_non_dict, isi_bl, sub_bl_int, sub_bl_bool, sub_bl_str, sub_bl_tuple, sub_bl_list, sub_bl_dict, isi_int, sub_int_int, sub_int_bool, sub_int_str, sub_int_tuple, sub_int_list, sub_int_dict, isi_str, sub_str_int, sub_str_bool, sub_str_str, sub_str_tuple, sub_str_list, sub_str_dict, isi_tup, sub_tup_int, sub_tup_bool, sub_tup_str, sub_tup_tuple, sub_tup_list, sub_tup_dict, isi_lst, sub_lst_int, sub_lst_bool, sub_lst_str, sub_lst_tuple, sub_lst_list, sub_lst_dict, isi_dct, sub_dct_int, sub_dct_bool, sub_dct_str, sub_dct_tuple, sub_dct_list, sub_dct_dict, List.any_cons, List.any_nil, Bool.or_false, Bool.or_true, Bool.false_or, Bool.true_or, wR_addT, wR_addL, wO_star1, wR_inK, wR_inKI, wR_ixK, wR_ixKI, lookK_hit, lookK_nil, Option.isSome_some, Option.isSome_none, seqF_tup, seqF_lst, seqF_scr, sz0, sz1, sz2, sz3, sz4, sz5, sz6, sz7, sz8, sz9, sz10, sz11, sz12, sz13, sz14, sz15, sz16, startE, isN, List.length_cons, List.length_nil, List.map_cons, List.map_nil, List.cons_append, List.nil_append, List.getElem?_cons_zero, List.getElem?_cons_succ, List.set_cons_zero, List.set_cons_succ, List.reduceReplicate, Nat.reduceAdd, Nat.reduceSub, Nat.zero_add, Option.map_some, decide_eq_true_eq, Bool.false_eq_true, Bool.not_true, Bool.not_false, if_false, if_true, true_and, and_true, hz, hz2, wR_ixQ hq, wR_ixQ hqr]
    by_cases hn : n = 0
    · subst hn
      by_cases hx : x = 0
      · subst hx
        by_cases h0 : j = 0
        · subst h0
          simp [wR_ok, wR_stuck, wR_exc, wR_bind, wR_var, wR_c, wR_1, wR_2, wR_nilA, wR_consA, wR_ite, wR_tup, wR_lst, wR_cellL, wR_asB, wR_test, wR_andT, wR_orT, wR_notT, onB_bl, wR_andV, wR_orV, wR_notV, wR_if, wR_call, wR_chain, wR_slice, wR_noPart, wR_part, wR_okO, wS_next, wS_fNext, wS_seq, wS_ret, wS_retN, wS_expr, wS_asg, wO_set, wO_some, wO_nils, wO_conss, wO_tup, wS_if, wS_for, wS_store, wS_par, on1_e, on2_e, onI_e, wR_range1, wR_range2, onSeq_some, wR_seqI, wR_zip, wR_enum, wR_lc, wR_yes, wR_sub, wR_add, wR_mul, wR_mod, wR_div, wR_pow, wR_neg, wR_lt, wR_le, wR_gt, wR_ge, wR_abs, wR_intC, wR_eqI, wR_eqS, wR_eqB, wR_isN, wR_lenL, wR_lenT, wR_listL, wR_listT, wR_tupL, wR_tupT, onO_some, wR_ixL, wR_ixT, sl_tup, sl_lst, sl_scr, isi_non, sub_non_int, sub_non_bool, sub_non_str, sub_non_tuple, sub_non_list, sub_non_dict, isi_bl, sub_bl_int, sub_bl_bool, sub_bl_str, sub_bl_tuple, sub_bl_list, sub_bl_dict, isi_int, sub_int_int, sub_int_bool, sub_int_str, sub_int_tuple, sub_int_list, sub_int_dict, isi_str, sub_str_int, sub_str_bool, sub_str_str, sub_str_tuple, sub_str_list, sub_str_dict, isi_tup, sub_tup_int, sub_tup_bool, sub_tup_str, sub_tup_tuple, sub_tup_list, sub_tup_dict, isi_lst, sub_lst_int, sub_lst_bool, sub_lst_str, sub_lst_tuple, sub_lst_list, sub_lst_dict, isi_dct, sub_dct_int, sub_dct_bool, sub_dct_str, sub_dct_tuple, sub_dct_list, sub_dct_dict, List.any_cons, List.any_nil, Bool.or_false, Bool.or_true, Bool.false_or, Bool.true_or, wR_addT, wR_addL, wO_star1, wR_inK, wR_inKI, wR_ixK, wR_ixKI, lookK_hit, lookK_nil, Option.isSome_some, Option.isSome_none, seqF_tup, seqF_lst, seqF_scr, sz0, sz1, sz2, sz3, sz4, sz5, sz6, sz7, sz8, sz9, sz10, sz11, sz12, sz13, sz14, sz15, sz16, startE, isN, List.length_cons, List.length_nil, List.map_cons, List.map_nil, List.cons_append, List.nil_append, List.getElem?_cons_zero, List.getElem?_cons_succ, List.set_cons_zero, List.set_cons_succ, List.reduceReplicate, Nat.reduceAdd, Nat.reduceSub, Nat.zero_add, Option.map_some, decide_eq_true_eq, Bool.false_eq_true, Bool.not_true, Bool.not_false, if_false, if_true, true_and, and_true, hz, hz2]
          exact fin2 (by simp [badT]) _ _
        · have h0' : 0 < j := by omega
          simp only [h0, h0', wR_ok, wR_stuck, wR_exc, wR_bind, wR_var, wR_c, wR_1, wR_2, wR_nilA, wR_consA, wR_ite, wR_tup, wR_lst, wR_cellL, wR_asB, wR_test, wR_andT, wR_orT, wR_notT, onB_bl, wR_andV, wR_orV, wR_notV, wR_if, wR_call, wR_chain, wR_slice, wR_noPart, wR_part, wR_okO, wS_next, wS_fNext, wS_seq, wS_ret, wS_retN, wS_expr, wS_asg, wO_set, wO_some, wO_nils, wO_conss, wO_tup, wS_if, wS_for, wS_store, wS_par, on1_e, on2_e, onI_e, wR_range1, wR_range2, onSeq_some, wR_seqI, wR_zip, wR_enum, wR_lc, wR_yes, wR_sub, wR_add, wR_mul, wR_mod, wR_div, wR_pow, wR_neg, wR_lt, wR_le, wR_gt, wR_ge, wR_abs, wR_intC, wR_eqI, wR_eqS, wR_eqB, wR_isN, wR_lenL, wR_lenT, wR_listL, wR_listT, wR_tupL, wR_tupT, onO_some, wR_ixL, wR_ixT, sl_tup, sl_lst, sl_scr, isi_non, sub_non_int, sub_non_bool, sub_non_str, sub_non_tuple, sub_non_list, sub_non_dict, isi_bl, sub_bl_int, sub_bl_bool, sub_bl_str, sub_bl_tuple, sub_bl_list, sub_bl_dict, isi_int, sub_int_int, sub_int_bool, sub_int_str, sub_int_tuple, sub_int_list, sub_int_dict, isi_str, sub_str_int, sub_str_bool, sub_str_str, sub_str_tuple, sub_str_list, sub_str_dict, isi_tup, sub_tup_int, sub_tup_bool, sub_tup_str, sub_tup_tuple, sub_tup_list, sub_tup_dict, isi_lst, sub_lst_int, sub_lst_bool, sub_lst_str, sub_lst_tuple, sub_lst_list, sub_lst_dict, isi_dct, sub_dct_int, sub_dct_bool, sub_dct_str, sub_dct_tuple, sub_dct_list, sub_dct_dict, List.any_cons, List.any_nil, Bool.or_false, Bool.or_true, Bool.false_or, Bool.true_or, wR_addT, wR_addL, wO_star1, wR_inK, wR_inKI, wR_ixK, wR_ixKI, lookK_hit, lookK_nil, Option.isSome_some, Option.isSome_none, seqF_tup, seqF_lst, seqF_scr, sz0, sz1, sz2, sz3, sz4, sz5, sz6, sz7, sz8, sz9, sz10, sz11, sz12, sz13, sz14, sz15, sz16, startE, isN, List.length_cons, List.length_nil, List.map_cons, List.map_nil, List.cons_append, List.nil_append, List.getElem?_cons_zero, List.getElem?_cons_succ, List.set_cons_zero, List.set_cons_succ, List.reduceReplicate, Nat.reduceAdd, Nat.reduceSub, Nat.zero_add, Option.map_some, decide_eq_true_eq, Bool.false_eq_true, Bool.not_true, Bool.not_false, if_false, if_true, true_and, and_true, decide_true, decide_false, atI_nat1 h0', List.getElem?_map]
          obtain ⟨y, hy⟩ : ∃ y, r[j - 1]? = some y := ⟨r[j - 1]'(by omega), List.getElem?_eq_getElem (by omega)⟩
          simp only [hy, wR_ok, wR_stuck, wR_exc, wR_bind, wR_var, wR_c, wR_1, wR_2, wR_nilA, wR_consA, wR_ite, wR_tup, wR_lst, wR_cellL, wR_asB, wR_test, wR_andT, wR_orT, wR_notT, onB_bl, wR_andV, wR_orV, wR_notV, wR_if, wR_call, wR_chain, wR_slice, wR_noPart, wR_part, wR_okO, wS_next, wS_fNext, wS_seq, wS_ret, wS_retN, wS_expr, wS_asg, wO_set, wO_some, wO_nils, wO_conss, wO_tup, wS_if, wS_for, wS_store, wS_par, on1_e, on2_e, onI_e, wR_range1, wR_range2, onSeq_some, wR_seqI, wR_zip, wR_enum, wR_lc, wR_yes, wR_sub, wR_add, wR_mul, wR_mod, wR_div, wR_pow, wR_neg, wR_lt, wR_le, wR_gt, wR_ge, wR_abs, wR_intC, wR_eqI, wR_eqS, wR_eqB, wR_isN, wR_lenL, wR_lenT, wR_listL, wR_listT, wR_tupL, wR_tupT, onO_some, wR_ixL, wR_ixT, sl_tup, sl_lst, sl_scr, isi_non, sub_non_int, sub_non_bool, sub_non_str, sub_non_tuple, sub_non_list, sub_non_dict, isi_bl, sub_bl_int, sub_bl_bool, sub_bl_str, sub_bl_tuple, sub_bl_list, sub_bl_dict, isi_int, sub_int_int, sub_int_bool, sub_int_str, sub_int_tuple, sub_int_list, sub_int_dict, isi_str, sub_str_int, sub_str_bool, sub_str_str, sub_str_tuple, sub_str_list, sub_str_dict, isi_tup, sub_tup_int, sub_tup_bool, sub_tup_str, sub_tup_tuple, sub_tup_list, sub_tup_dict, isi_lst, sub_lst_int, sub_lst_bool, sub_lst_str, sub_lst_tuple, sub_lst_list, sub_lst_dict, isi_dct, sub_dct_int, sub_dct_bool, sub_dct_str, sub_dct_tuple, sub_dct_list, sub_dct_dict, List.any_cons, List.any_nil, Bool.or_false, Bool.or_true, Bool.false_or, Bool.true_or, wR_addT, wR_addL, wO_star1, wR_inK, wR_inKI, wR_ixK, wR_ixKI, lookK_hit, lookK_nil, Option.isSome_some, Option.isSome_none, seqF_tup, seqF_lst, seqF_scr, sz0, sz1, sz2, sz3, sz4, sz5, sz6, sz7, sz8, sz9, sz10, sz11, sz12, sz13, sz14, sz15, sz16, startE, isN, List.length_cons, List.length_nil, List.map_cons, List.map_nil, List.cons_append, List.nil_append, List.getElem?_cons_zero, List.getElem?_cons_succ, List.set_cons_zero, List.set_cons_succ, List.reduceReplicate, Nat.reduceAdd, Nat.reduceSub, Nat.zero_add, Option.map_some, decide_eq_true_eq, Bool.false_eq_true, Bool.not_true, Bool.not_false, if_false, if_true, true_and, and_true]
          by_cases hlt : (0 : Int) < y
          · simp only [hlt, decide_true, wR_ok, wR_stuck, wR_exc, wR_bind, wR_var, wR_c, wR_1, wR_2, wR_nilA, wR_consA, wR_ite, wR_tup, wR_lst, wR_cellL, wR_asB, wR_test, wR_andT, wR_orT, wR_notT, onB_bl, wR_andV, wR_orV, wR_notV, wR_if, wR_call, wR_chain, wR_slice, wR_noPart, wR_part, wR_okO, wS_next, wS_fNext, wS_seq, wS_ret, wS_retN, wS_expr, wS_asg, wO_set, wO_some, wO_nils, wO_conss, wO_tup, wS_if, wS_for, wS_store, wS_par, on1_e, on2_e, onI_e, wR_range1, wR_range2, onSeq_some, wR_seqI, wR_zip, wR_enum, wR_lc, wR_yes, wR_sub, wR_add, wR_mul, wR_mod, wR_div, wR_pow, wR_neg, wR_lt, wR_le, wR_gt, wR_ge, wR_abs, wR_intC, wR_eqI, wR_eqS, wR_eqB, wR_isN, wR_lenL, wR_lenT, wR_listL, wR_listT, wR_tupL, wR_tupT, onO_some, wR_ixL, wR_ixT, sl_tup, sl_lst, sl_scr, isi_non, sub_non_int, sub_non_bool, sub_non_str, sub_non_tuple, sub_non_list, sub_non_dict, isi_bl, sub_bl_int, sub_bl_bool, sub_bl_str, sub_bl_tuple, sub_bl_list, sub_bl_dict, isi_int, sub_int_int, sub_int_bool, sub_int_str, sub_int_tuple, sub_int_list, sub_int_dict, isi_str, sub_str_int, sub_str_bool, sub_str_str, sub_str_tuple, sub_str_list, sub_str_dict, isi_tup, sub_tup_int, sub_tup_bool, sub_tup_str, sub_tup_tuple, sub_tup_list, sub_tup_dict, isi_lst, sub_lst_int, sub_lst_bool, sub_lst_str, sub_lst_tuple, sub_lst_list, sub_lst_dict, isi_dct, sub_dct_int, sub_dct_bool, sub_dct_str, sub_dct_tuple, sub_dct_list, sub_dct_dict, List.any_cons, List.any_nil, Bool.or_false, Bool.or_true, Bool.false_or, Bool.true_or, wR_addT, wR_addL, wO_star1, wR_inK, wR_inKI, wR_ixK, wR_ixKI, lookK_hit, lookK_nil, Option.isSome_some, Option.isSome_none, seqF_tup, seqF_lst, seqF_scr, sz0, sz1, sz2, sz3, sz4, sz5, sz6, sz7, sz8, sz9, sz10, sz11, sz12, sz13, sz14, sz15, sz16, startE, isN, List.length_cons, List.length_nil, List.map_cons, List.map_nil, List.cons_append, List.nil_append, List.getElem?_cons_zero, List.getElem?_cons_succ, List.set_cons_zero, List.set_cons_succ, List.reduceReplicate, Nat.reduceAdd, Nat.reduceSub, Nat.zero_add, Option.map_some, decide_eq_true_eq, Bool.false_eq_true, Bool.not_true, Bool.not_false, if_false, if_true, true_and, and_true]
            exact fin1 (by simp [badT, h0', hy, hlt])
          · simp only [hlt, decide_false, wR_ok, wR_stuck, wR_exc, wR_bind, wR_var, wR_c, wR_1, wR_2, wR_nilA, wR_consA, wR_ite, wR_tup, wR_lst, wR_cellL, wR_asB, wR_test, wR_andT, wR_orT, wR_notT, onB_bl, wR_andV, wR_orV, wR_notV, wR_if, wR_call, wR_chain, wR_slice, wR_noPart, wR_part, wR_okO, wS_next, wS_fNext, wS_seq, wS_ret, wS_retN, wS_expr, wS_asg, wO_set, wO_some, wO_nils, wO_conss, wO_tup, wS_if, wS_for, wS_store, wS_par, on1_e, on2_e, onI_e, wR_range1, wR_range2, onSeq_some, wR_seqI, wR_zip, wR_enum, wR_lc, wR_yes, wR_sub, wR_add, wR_mul, wR_mod, wR_div, wR_pow, wR_neg, wR_lt, wR_le, wR_gt, wR_ge, wR_abs, wR_intC, wR_eqI, wR_eqS, wR_eqB, wR_isN, wR_lenL, wR_lenT, wR_listL, wR_listT, wR_tupL, wR_tupT, onO_some, wR_ixL, wR_ixT, sl_tup, sl_lst, sl_scr, isi_non, sub_non_int, sub_non_bool, sub_non_str, sub_non_tuple, sub_non_list, sub_non_dict, isi_bl, sub_bl_int, sub_bl_bool, sub_bl_str, sub_bl_tuple, sub_bl_list, sub_bl_dict, isi_int, sub_int_int, sub_int_bool, sub_int_str, sub_int_tuple, sub_int_list, sub_int_dict, isi_str, sub_str_int, sub_str_bool, sub_str_str, sub_str_tuple, sub_str_list, sub_str_dict, isi_tup, sub_tup_int, sub_tup_bool, sub_tup_str, sub_tup_tuple, sub_tup_list, sub_tup_dict, isi_lst, sub_lst_int, sub_lst_bool, sub_lst_str, sub_lst_tuple, sub_lst_list, sub_lst_dict, isi_dct, sub_dct_int, sub_dct_bool, sub_dct_str, sub_dct_tuple, sub_dct_list, sub_dct_dict, List.any_cons, List.any_nil, Bool.or_false, Bool.or_true, Bool.false_or, Bool.true_or, wR_addT, wR_addL, wO_star1, wR_inK, wR_inKI, wR_ixK, wR_ixKI, lookK_hit, lookK_nil, Option.isSome_some, Option.isSome_none, seqF_tup, seqF_lst, seqF_scr, sz0, sz1, sz2, sz3, sz4, sz5, sz6, sz7, sz8, sz9, sz10, sz11, sz12, sz13, sz14, sz15, sz16, startE, isN, List.length_cons, List.length_nil, List.map_cons, List.map_nil, List.cons_append, List.nil_append, List.getElem?_cons_zero, List.getElem?_cons_succ, List.set_cons_zero, List.set_cons_succ, List.reduceReplicate, Nat.reduceAdd, Nat.reduceSub, Nat.zero_add, Option.map_some, decide_eq_true_eq, Bool.false_eq_true, Bool.not_true, Bool.not_false, if_false, if_true, true_and, and_true]
            exact fin2 (by simp [badT, h0', hy, hlt]) _ _
      · simp only [decide_true, hx, decide_false, wR_ok, wR_stuck, wR_exc, wR_bind, wR_var, wR_c, wR_1, wR_2, wR_nilA, wR_consA, wR_ite, wR_tup, wR_lst, wR_cellL, wR_asB, wR_test, wR_andT, wR_orT, wR_notT, onB_bl, wR_andV, wR_orV, wR_notV, wR_if, wR_call, wR_chain, wR_slice, wR_noPart, wR_part, wR_okO, wS_next, wS_fNext, wS_seq, wS_ret, wS_retN, wS_expr, wS_asg, wO_set, wO_some, wO_nils, wO_conss, wO_tup, wS_if, wS_for, wS_store, wS_par, on1_e, on2_e, onI_e, wR_range1, wR_range2, onSeq_some, wR_seqI, wR_zip, wR_enum, wR_lc, wR_yes, wR_sub, wR_add, wR_mul, wR_mod, wR_div, wR_pow, wR_neg, wR_lt, wR_le, wR_gt, wR_ge, wR_abs, wR_intC, wR_eqI, wR_eqS, wR_eqB, wR_isN, wR_lenL, wR_lenT, wR_listL, wR_listT, wR_tupL, wR_tupT, onO_some, wR_ixL, wR_ixT, sl_tup, sl_lst, sl_scr, isi_non, sub_non_int, sub_non_bool, sub_non_str, sub_non_tuple, sub_non_list, sub_non_dict, isi_bl, sub_bl_int, sub_bl_bool, sub_bl_str, sub_bl_tuple, sub_bl_list, sub_bl_dict, isi_int, sub_int_int, sub_int_bool, sub_int_str, sub_int_tuple, sub_int_list, sub_int_dict, isi_str, sub_str_int, sub_str_bool, sub_str_str, sub_str_tuple, sub_str_list, sub_str_dict, isi_tup, sub_tup_int, sub_tup_bool, sub_tup_str, sub_tup_tuple, sub_tup_list, sub_tup_dict, isi_lst, sub_lst_int, sub_lst_bool, sub_lst_str, sub_lst_tuple, sub_lst_list, sub_lst_dict, isi_dct, sub_dct_int, sub_dct_bool, sub_dct_str, sub_dct_tuple, sub_dct_list, sub_dct_dict, List.any_cons, List.any_nil, Bool.or_false, Bool.or_true, Bool.false_or, Bool.true_or, wR_addT, wR_addL, wO_star1, wR_inK, wR_inKI, wR_ixK, wR_ixKI, lookK_hit, lookK_nil, Option.isSome_some, Option.isSome_none, seqF_tup, seqF_lst, seqF_scr, sz0, sz1, sz2, sz3, sz4, sz5, sz6, sz7, sz8, sz9, sz10, sz11, sz12, sz13, sz14, sz15, sz16, startE, isN, List.length_cons, List.length_nil, List.map_cons, List.map_nil, List.cons_append, List.nil_append, List.getElem?_cons_zero, List.getElem?_cons_succ, List.set_cons_zero, List.set_cons_succ, List.reduceReplicate, Nat.reduceAdd, Nat.reduceSub, Nat.zero_add, Option.map_some, decide_eq_true_eq, Bool.false_eq_true, Bool.not_true, Bool.not_false, if_false, if_true, true_and, and_true]
        exact fin1 (by simp [badT, hx])
    · have hn' : 0 < n := by omega
      obtain ⟨q, hq1, hq2⟩ := up hn'
      have hq3 : Sq (rowD ρ q) (q.map D.int) := hρ.h _
      have hq4 : q[j]? = some q[j] := List.getElem?_eq_getElem hq2
      simp only [hn, hn', decide_true, decide_false, wR_ok, wR_stuck, wR_exc, wR_bind, wR_var, wR_c, wR_1, wR_2, wR_nilA, wR_consA, wR_ite, wR_tup, wR_lst, wR_cellL, wR_asB, wR_test, wR_andT, wR_orT, wR_notT, onB_bl, wR_andV, wR_orV, wR_notV, wR_if, wR_call, wR_chain, wR_slice, wR_noPart, wR_part, wR_okO, wS_next, wS_fNext, wS_seq, wS_ret, wS_retN, wS_expr, wS_asg, wO_set, wO_some, wO_nils, wO_conss, wO_tup, wS_if, wS_for, wS_store, wS_par, on1_e, on2_e, onI_e, wR_range1, wR_range2, onSeq_some, wR_seqI, wR_zip, wR_enum, wR_lc, wR_yes, wR_sub, wR_add, wR_mul, wR_mod, wR_div, wR_pow, wR_neg, wR_lt, wR_le, wR_gt, wR_ge, wR_abs, wR_intC, wR_eqI, wR_eqS, wR_eqB, wR_isN, wR_lenL, wR_lenT, wR_listL, wR_listT, wR_tupL, wR_tupT, onO_some, wR_ixL, wR_ixT, sl_tup, sl_lst, sl_scr, isi_non, sub_non_int, sub_non_bool, sub_non_str, sub_non_tuple, sub_non_list, sub_non_dict, isi_bl, sub_bl_int, sub_bl_bool, sub_bl_str, sub_bl_tuple, sub_bl_list, sub_bl_dict, isi_int, sub_int_int, sub_int_bool, sub_int_str, sub_int_tuple, sub_int_list, sub_int_dict, isi_str, sub_str_int, sub_str_bool, sub_str_str, sub_str_tuple, sub_str_list, sub_str_dict, isi_tup, sub_tup_int, sub_tup_bool, sub_tup_str, sub_tup_tuple, sub_tup_list, sub_tup_dict, isi_lst, sub_lst_int, sub_lst_bool, sub_lst_str, sub_lst_tuple, sub_lst_list, sub_lst_dict, isi_dct, sub_dct_int, sub_dct_bool, sub_dct_str, sub_dct_tuple, sub_dct_list, sub_dct_dict, List.any_cons, List.any_nil, Bool.or_false, Bool.or_true, Bool.false_or, Bool.true_or, wR_addT, wR_addL, wO_star1, wR_inK, wR_inKI, wR_ixK, wR_ixKI, lookK_hit, lookK_nil, Option.isSome_some, Option.isSome_none, seqF_tup, seqF_lst, seqF_scr, sz0, sz1, sz2, sz3, sz4, sz5, sz6, sz7, sz8, sz9, sz10, sz11, sz12, sz13, sz14, sz15, sz16, startE, isN, List.length_cons, List.length_nil, List.map_cons, List.map_nil, List.cons_append, List.nil_append, List.getElem?_cons_zero, List.getElem?_cons_succ, List.set_cons_zero, List.set_cons_succ, List.reduceReplicate, Nat.reduceAdd, Nat.reduceSub, Nat.zero_add, Option.map_some, decide_eq_true_eq, Bool.false_eq_true, Bool.not_true, Bool.not_false, if_false, if_true, true_and, and_true, atI_nat1 hn', List.getElem?_map, hq1, wR_ixQ hq3, atI_nat, hq4]
      by_cases h0 : j = 0
      · subst h0
        by_cases hx : x = 0
        · subst hx
          simp only [decide_true, wR_ok, wR_stuck, wR_exc, wR_bind, wR_var, wR_c, wR_1, wR_2, wR_nilA, wR_consA, wR_ite, wR_tup, wR_lst, wR_cellL, wR_asB, wR_test, wR_andT, wR_orT, wR_notT, onB_bl, wR_andV, wR_orV, wR_notV, wR_if, wR_call, wR_chain, wR_slice, wR_noPart, wR_part, wR_okO, wS_next, wS_fNext, wS_seq, wS_ret, wS_retN, wS_expr, wS_asg, wO_set, wO_some, wO_nils, wO_conss, wO_tup, wS_if, wS_for, wS_store, wS_par, on1_e, on2_e, onI_e, wR_range1, wR_range2, onSeq_some, wR_seqI, wR_zip, wR_enum, wR_lc, wR_yes, wR_sub, wR_add, wR_mul, wR_mod, wR_div, wR_pow, wR_neg, wR_lt, wR_le, wR_gt, wR_ge, wR_abs, wR_intC, wR_eqI, wR_eqS, wR_eqB, wR_isN, wR_lenL, wR_lenT, wR_listL, wR_listT, wR_tupL, wR_tupT, onO_some, wR_ixL, wR_ixT, sl_tup, sl_lst, sl_scr, isi_non, sub_non_int, sub_non_bool, sub_non_str, sub_non_tuple, sub_non_list, sub_non_dict, isi_bl, sub_bl_int, sub_bl_bool, sub_bl_str, sub_bl_tuple, sub_bl_list, sub_bl_dict, isi_int, sub_int_int, sub_int_bool, sub_int_str, sub_int_tuple, sub_int_list, sub_int_dict, isi_str, sub_str_int, sub_str_bool, sub_str_str, sub_str_tuple, sub_str_list, sub_str_dict, isi_tup, sub_tup_int, sub_tup_bool, sub_tup_str, sub_tup_tuple, sub_tup_list, sub_tup_dict, isi_lst, sub_lst_int, sub_lst_bool, sub_lst_str, sub_lst_tuple, sub_lst_list, sub_lst_dict, isi_dct, sub_dct_int, sub_dct_bool, sub_dct_str, sub_dct_tuple, sub_dct_list, sub_dct_dict, List.any_cons, List.any_nil, Bool.or_false, Bool.or_true, Bool.false_or, Bool.true_or, wR_addT, wR_addL, wO_star1, wR_inK, wR_inKI, wR_ixK, wR_ixKI, lookK_hit, lookK_nil, Option.isSome_some, Option.isSome_none, seqF_tup, seqF_lst, seqF_scr, sz0, sz1, sz2, sz3, sz4, sz5, sz6, sz7, sz8, sz9, sz10, sz11, sz12, sz13, sz14, sz15, sz16, startE, isN, List.length_cons, List.length_nil, List.map_cons, List.map_nil, List.cons_append, List.nil_append, List.getElem?_cons_zero, List.getElem?_cons_succ, List.set_cons_zero, List.set_cons_succ, List.reduceReplicate, Nat.reduceAdd, Nat.reduceSub, Nat.zero_add, Option.map_some, decide_eq_true_eq, Bool.false_eq_true, Bool.not_true, Bool.not_false, if_false, if_true, true_and, and_true]
          by_cases hlt : (0 : Int) < q[0]
          · simp only [hlt, decide_true, wR_ok, wR_stuck, wR_exc, wR_bind, wR_var, wR_c, wR_1, wR_2, wR_nilA, wR_consA, wR_ite, wR_tup, wR_lst, wR_cellL, wR_asB, wR_test, wR_andT, wR_orT, wR_notT, onB_bl, wR_andV, wR_orV, wR_notV, wR_if, wR_call, wR_chain, wR_slice, wR_noPart, wR_part, wR_okO, wS_next, wS_fNext, wS_seq, wS_ret, wS_retN, wS_expr, wS_asg, wO_set, wO_some, wO_nils, wO_conss, wO_tup, wS_if, wS_for, wS_store, wS_par, on1_e, on2_e, onI_e, wR_range1, wR_range2, onSeq_some, wR_seqI, wR_zip, wR_enum, wR_lc, wR_yes, wR_sub, wR_add, wR_mul, wR_mod, wR_div, wR_pow, wR_neg, wR_lt, wR_le, wR_gt, wR_ge, wR_abs, wR_intC, wR_eqI, wR_eqS, wR_eqB, wR_isN, wR_lenL, wR_lenT, wR_listL, wR_listT, wR_tupL, wR_tupT, onO_some, wR_ixL, wR_ixT, sl_tup, sl_lst, sl_scr, isi_non, sub_non_int, sub_non_bool, sub_non_str, sub_non_tuple, sub_non_list, sub_non_dict, isi_bl, sub_bl_int, sub_bl_bool, sub_bl_str, sub_bl_tuple, sub_bl_list, sub_bl_dict, isi_int, sub_int_int, sub_int_bool, sub_int_str, sub_int_tuple, sub_int_list, sub_int_dict, isi_str, sub_str_int, sub_str_bool, sub_str_str, sub_str_tuple, sub_str_list, sub_str_dict, isi_tup, sub_tup_int, sub_tup_bool, sub_tup_str, sub_tup_tuple, sub_tup_list, sub_tup_dict, isi_lst, sub_lst_int, sub_lst_bool, sub_lst_str, sub_lst_tuple, sub_lst_list, sub_lst_dict, isi_dct, sub_dct_int, sub_dct_bool, sub_dct_str, sub_dct_tuple, sub_dct_list, sub_dct_dict, List.any_cons, List.any_nil, Bool.or_false, Bool.or_true, Bool.false_or, Bool.true_or, wR_addT, wR_addL, wO_star1, wR_inK, wR_inKI, wR_ixK, wR_ixKI, lookK_hit, lookK_nil, Option.isSome_some, Option.isSome_none, seqF_tup, seqF_lst, seqF_scr, sz0, sz1, sz2, sz3, sz4, sz5, sz6, sz7, sz8, sz9, sz10, sz11, sz12, sz13, sz14, sz15, sz16, startE, isN, List.length_cons, List.length_nil, List.map_cons, List.map_nil, List.cons_append, List.nil_append, List.getElem?_cons_zero, List.getElem?_cons_succ, List.set_cons_zero, List.set_cons_succ, List.reduceReplicate, Nat.reduceAdd, Nat.reduceSub, Nat.zero_add, Option.map_some, decide_eq_true_eq, Bool.false_eq_true, Bool.not_true, Bool.not_false, if_false, if_true, true_and, and_true]
            exact fin1 (by simp [badT, hn', hq1, hq4, hlt])
          · simp [hlt, wR_ok, wR_stuck, wR_exc, wR_bind, wR_var, wR_c, wR_1, wR_2, wR_nilA, wR_consA, wR_ite, wR_tup, wR_lst, wR_cellL, wR_asB, wR_test, wR_andT, wR_orT, wR_notT, onB_bl, wR_andV, wR_orV, wR_notV, wR_if, wR_call, wR_chain, wR_slice, wR_noPart, wR_part, wR_okO, wS_next, wS_fNext, wS_seq, wS_ret, wS_retN, wS_expr, wS_asg, wO_set, wO_some, wO_nils, wO_conss, wO_tup, wS_if, wS_for, wS_store, wS_par, on1_e, on2_e, onI_e, wR_range1, wR_range2, onSeq_some, wR_seqI, wR_zip, wR_enum, wR_lc, wR_yes, wR_sub, wR_add, wR_mul, wR_mod, wR_div, wR_pow, wR_neg, wR_lt, wR_le, wR_gt, wR_ge, wR_abs, wR_intC, wR_eqI, wR_eqS, wR_eqB, wR_isN, wR_lenL, wR_lenT, wR_listL, wR_listT, wR_tupL, wR_tupT, onO_some, wR_ixL, wR_ixT, sl_tup, sl_lst, sl_scr, isi_non, sub_non_int, sub_non_bool, sub_non_str, sub_non_tuple, sub_non_list, sub_non_dict, isi_bl, sub_bl_int, sub_bl_bool, sub_bl_str, sub_bl_tuple, sub_bl_list, sub_bl_dict, isi_int, sub_int_int, sub_int_bool, sub_int_str, sub_int_tuple, sub_int_list, sub_int_dict, isi_str, sub_str_int, sub_str_bool, sub_str_str, sub_str_tuple, sub_str_list, sub_str_dict, isi_tup, sub_tup_int, sub_tup_bool, sub_tup_str, sub_tup_tuple, sub_tup_list, sub_tup_dict, isi_lst, sub_lst_int, sub_lst_bool, sub_lst_str, sub_lst_tuple, sub_lst_list, sub_lst_dict, isi_dct, sub_dct_int, sub_dct_bool, sub_dct_str, sub_dct_tuple, sub_dct_list, sub_dct_dict, List.any_cons, List.any_nil, Bool.or_false, Bool.or_true, Bool.false_or, Bool.true_or, wR_addT, wR_addL, wO_star1, wR_inK, wR_inKI, wR_ixK, wR_ixKI, lookK_hit, lookK_nil, Option.isSome_some, Option.isSome_none, seqF_tup, seqF_lst, seqF_scr, sz0, sz1, sz2, sz3, sz4, sz5, sz6, sz7, sz8, sz9, sz10, sz11, sz12, sz13, sz14, sz15, sz16, startE, isN, List.length_cons, List.length_nil, List.map_cons, List.map_nil, List.cons_append, List.nil_append, List.getElem?_cons_zero, List.getElem?_cons_succ, List.set_cons_zero, List.set_cons_succ, List.reduceReplicate, Nat.reduceAdd, Nat.reduceSub, Nat.zero_add, Option.map_some, decide_eq_true_eq, Bool.false_eq_true, Bool.not_true, Bool.not_false, if_false, if_true, true_and, and_true]
            exact fin2 (by simp [badT, hn', hq1, hq4, hlt]) _ _
        · simp only [decide_true, hx, decide_false, wR_ok, wR_stuck, wR_exc, wR_bind, wR_var, wR_c, wR_1, wR_2, wR_nilA, wR_consA, wR_ite, wR_tup, wR_lst, wR_cellL, wR_asB, wR_test, wR_andT, wR_orT, wR_notT, onB_bl, wR_andV, wR_orV, wR_notV, wR_if, wR_call, wR_chain, wR_slice, wR_noPart, wR_part, wR_okO, wS_next, wS_fNext, wS_seq, wS_ret, wS_retN, wS_expr, wS_asg, wO_set, wO_some, wO_nils, wO_conss, wO_tup, wS_if, wS_for, wS_store, wS_par, on1_e, on2_e, onI_e, wR_range1, wR_range2, onSeq_some, wR_seqI, wR_zip, wR_enum, wR_lc, wR_yes, wR_sub, wR_add, wR_mul, wR_mod, wR_div, wR_pow, wR_neg, wR_lt, wR_le, wR_gt, wR_ge, wR_abs, wR_intC, wR_eqI, wR_eqS, wR_eqB, wR_isN, wR_lenL, wR_lenT, wR_listL, wR_listT, wR_tupL, wR_tupT, onO_some, wR_ixL, wR_ixT, sl_tup, sl_lst, sl_scr, isi_non, sub_non_int, sub_non_bool, sub_non_str, sub_non_tuple, sub_non_list, sub_non_dict, isi_bl, sub_bl_int, sub_bl_bool, sub_bl_str, sub_bl_tuple, sub_bl_list, sub_bl_dict, isi_int, sub_int_int, sub_int_bool, sub_int_str, sub_int_tuple, sub_int_list, sub_int_dict, isi_str, sub_str_int, sub_str_bool, sub_str_str, sub_str_tuple, sub_str_list, sub_str_dict, isi_tup, sub_tup_int, sub_tup_bool, sub_tup_str, sub_tup_tuple, sub_tup_list, sub_tup_dict, isi_lst, sub_lst_int, sub_lst_bool, sub_lst_str, sub_lst_tuple, sub_lst_list, sub_lst_dict, isi_dct, sub_dct_int, sub_dct_bool, sub_dct_str, sub_dct_tuple, sub_dct_list, sub_dct_dict, List.any_cons, List.any_nil, Bool.or_false, Bool.or_true, Bool.false_or, Bool.true_or, wR_addT, wR_addL, wO_star1, wR_inK, wR_inKI, wR_ixK, wR_ixKI, lookK_hit, lookK_nil, Option.isSome_some, Option.isSome_none, seqF_tup, seqF_lst, seqF_scr, sz0, sz1, sz2, sz3, sz4, sz5, sz6, sz7, sz8, sz9, sz10, sz11, sz12, sz13, sz14, sz15, sz16, startE, isN, List.length_cons, List.length_nil, List.map_cons, List.map_nil, List.cons_append, List.nil_append, List.getElem?_cons_zero, List.getElem?_cons_succ, List.set_cons_zero, List.set_cons_succ, List.reduceReplicate, Nat.reduceAdd, Nat.reduceSub, Nat.zero_add, Option.map_some, decide_eq_true_eq, Bool.false_eq_true, Bool.not_true, Bool.not_false, if_false, if_true, true_and, and_true]
          exact fin1 (by simp [badT, hx])
      · have h0' : 0 < j := by omega
        obtain ⟨y, hy⟩ : ∃ y, r[j - 1]? = some y := ⟨r[j - 1]'(by omega), List.getElem?_eq_getElem (by omega)⟩
        simp only [h0, h0', decide_true, decide_false, wR_ok, wR_stuck, wR_exc, wR_bind, wR_var, wR_c, wR_1, wR_2, wR_nilA, wR_consA, wR_ite, wR_tup, wR_lst, wR_cellL, wR_asB, wR_test, wR_andT, wR_orT, wR_notT, onB_bl, wR_andV, wR_orV, wR_notV, wR_if, wR_call, wR_chain, wR_slice, wR_noPart, wR_part, wR_okO, wS_next, wS_fNext, wS_seq, wS_ret, wS_retN, wS_expr, wS_asg, wO_set, wO_some, wO_nils, wO_conss, wO_tup, wS_if, wS_for, wS_store, wS_par, on1_e, on2_e, onI_e, wR_range1, wR_range2, onSeq_some, wR_seqI, wR_zip, wR_enum, wR_lc, wR_yes, wR_sub, wR_add, wR_mul, wR_mod, wR_div, wR_pow, wR_neg, wR_lt, wR_le, wR_gt, wR_ge, wR_abs, wR_intC, wR_eqI, wR_eqS, wR_eqB, wR_isN, wR_lenL, wR_lenT, wR_listL, wR_listT, wR_tupL, wR_tupT, onO_some, wR_ixL, wR_ixT, sl_tup, sl_lst, sl_scr, isi_non, sub_non_int, sub_non_bool, sub_non_str, sub_non_tuple, sub_non_list, sub_non_dict, isi_bl, sub_bl_int, sub_bl_bool, sub_bl_str, sub_bl_tuple, sub_bl_list, sub_bl_dict, isi_int, sub_int_int, sub_int_bool, sub_int_str, sub_int_tuple, sub_int_list, sub_int_dict, isi_str, sub_str_int, sub_str_bool, sub_str_str, sub_str_tuple, sub_str_list, sub_str_dict, isi_tup, sub_tup_int, sub_tup_bool, sub_tup_str, sub_tup_tuple, sub_tup_list, sub_tup_dict, isi_lst, sub_lst_int, sub_lst_bool, sub_lst_str, sub_lst_tuple, sub_lst_list, sub_lst_dict, isi_dct, sub_dct_int, sub_dct_bool, sub_dct_str, sub_dct_tuple, sub_dct_list, sub_dct_dict, List.any_cons, List.any_nil, Bool.or_false, Bool.or_true, Bool.false_or, Bool.true_or, wR_addT, wR_addL, wO_star1, wR_inK, wR_inKI, wR_ixK, wR_ixKI, lookK_hit, lookK_nil, Option.isSome_some, Option.isSome_none, seqF_tup, seqF_lst, seqF_scr, sz0, sz1, sz2, sz3, sz4, sz5, sz6, sz7, sz8, sz9, sz10, sz11, sz12, sz13, sz14, sz15, sz16, startE, isN, List.length_cons, List.length_nil, List.map_cons, List.map_nil, List.cons_append, List.nil_append, List.getElem?_cons_zero, List.getElem?_cons_succ, List.set_cons_zero, List.set_cons_succ, List.reduceReplicate, Nat.reduceAdd, Nat.reduceSub, Nat.zero_add, Option.map_some, decide_eq_true_eq, Bool.false_eq_true, Bool.not_true, Bool.not_false, if_false, if_true, true_and, and_true, atI_nat1 h0', hy, List.getElem?_map]
        by_cases hlt : x < q[j]
        · simp only [hlt, decide_true, wR_ok, wR_stuck, wR_exc, wR_bind, wR_var, wR_c, wR_1, wR_2, wR_nilA, wR_consA, wR_ite, wR_tup, wR_lst, wR_cellL, wR_asB, wR_test, wR_andT, wR_orT, wR_notT, onB_bl, wR_andV, wR_orV, wR_notV, wR_if, wR_call, wR_chain, wR_slice, wR_noPart, wR_part, wR_okO, wS_next, wS_fNext, wS_seq, wS_ret, wS_retN, wS_expr, wS_asg, wO_set, wO_some, wO_nils, wO_conss, wO_tup, wS_if, wS_for, wS_store, wS_par, on1_e, on2_e, onI_e, wR_range1, wR_range2, onSeq_some, wR_seqI, wR_zip, wR_enum, wR_lc, wR_yes, wR_sub, wR_add, wR_mul, wR_mod, wR_div, wR_pow, wR_neg, wR_lt, wR_le, wR_gt, wR_ge, wR_abs, wR_intC, wR_eqI, wR_eqS, wR_eqB, wR_isN, wR_lenL, wR_lenT, wR_listL, wR_listT, wR_tupL, wR_tupT, onO_some, wR_ixL, wR_ixT, sl_tup, sl_lst, sl_scr, isi_non, sub_non_int, sub_non_bool, sub_non_str, sub_non_tuple, sub_non_list, sub_non_dict, isi_bl, sub_bl_int, sub_bl_bool, sub_bl_str, sub_bl_tuple, sub_bl_list, sub_bl_dict, isi_int, sub_int_int, sub_int_bool, sub_int_str, sub_int_tuple, sub_int_list, sub_int_dict, isi_str, sub_str_int, sub_str_bool, sub_str_str, sub_str_tuple, sub_str_list, sub_str_dict, isi_tup, sub_tup_int, sub_tup_bool, sub_tup_str, sub_tup_tuple, sub_tup_list, sub_tup_dict, isi_lst, sub_lst_int, sub_lst_bool, sub_lst_str, sub_lst_tuple, sub_lst_list, sub_lst_dict, isi_dct, sub_dct_int, sub_dct_bool, sub_dct_str, sub_dct_tuple, sub_dct_list, sub_dct_dict, List.any_cons, List.any_nil, Bool.or_false, Bool.or_true, Bool.false_or, Bool.true_or, wR_addT, wR_addL, wO_star1, wR_inK, wR_inKI, wR_ixK, wR_ixKI, lookK_hit, lookK_nil, Option.isSome_some, Option.isSome_none, seqF_tup, seqF_lst, seqF_scr, sz0, sz1, sz2, sz3, sz4, sz5, sz6, sz7, sz8, sz9, sz10, sz11, sz12, sz13, sz14, sz15, sz16, startE, isN, List.length_cons, List.length_nil, List.map_cons, List.map_nil, List.cons_append, List.nil_append, List.getElem?_cons_zero, List.getElem?_cons_succ, List.set_cons_zero, List.set_cons_succ, List.reduceReplicate, Nat.reduceAdd, Nat.reduceSub, Nat.zero_add, Option.map_some, decide_eq_true_eq, Bool.false_eq_true, Bool.not_true, Bool.not_false, if_false, if_true, true_and, and_true]
          exact fin1 (by simp [badT, hn', hq1, hq4, hlt])
        · simp only [hlt, decide_false, wR_ok, wR_stuck, wR_exc, wR_bind, wR_var, wR_c, wR_1, wR_2, wR_nilA, wR_consA, wR_ite, wR_tup, wR_lst, wR_cellL, wR_asB, wR_test, wR_andT, wR_orT, wR_notT, onB_bl, wR_andV, wR_orV, wR_notV, wR_if, wR_call, wR_chain, wR_slice, wR_noPart, wR_part, wR_okO, wS_next, wS_fNext, wS_seq, wS_ret, wS_retN, wS_expr, wS_asg, wO_set, wO_some, wO_nils, wO_conss, wO_tup, wS_if, wS_for, wS_store, wS_par, on1_e, on2_e, onI_e, wR_range1, wR_range2, onSeq_some, wR_seqI, wR_zip, wR_enum, wR_lc, wR_yes, wR_sub, wR_add, wR_mul, wR_mod, wR_div, wR_pow, wR_neg, wR_lt, wR_le, wR_gt, wR_ge, wR_abs, wR_intC, wR_eqI, wR_eqS, wR_eqB, wR_isN, wR_lenL, wR_lenT, wR_listL, wR_listT, wR_tupL, wR_tupT, onO_some, wR_ixL, wR_ixT, sl_tup, sl_lst, sl_scr, isi_non, sub_non_int, sub_non_bool, sub_non_str, sub_non_tuple, sub_non_list, sub_non_dict, isi_bl, sub_bl_int, sub_bl_bool, sub_bl_str, sub_bl_tuple, sub_bl_list, sub_bl_dict, isi_int, sub_int_int, sub_int_bool, sub_int_str, sub_int_tuple, sub_int_list, sub_int_dict, isi_str, sub_str_int, sub_str_bool, sub_str_str, sub_str_tuple, sub_str_list, sub_str_dict, isi_tup, sub_tup_int, sub_tup_bool, sub_tup_str, sub_tup_tuple, sub_tup_list, sub_tup_dict, isi_lst, sub_lst_int, sub_lst_bool, sub_lst_str, sub_lst_tuple, sub_lst_list, sub_lst_dict, isi_dct, sub_dct_int, sub_dct_bool, sub_dct_str, sub_dct_tuple, sub_dct_list, sub_dct_dict, List.any_cons, List.any_nil, Bool.or_false, Bool.or_true, Bool.false_or, Bool.true_or, wR_addT, wR_addL, wO_star1, wR_inK, wR_inKI, wR_ixK, wR_ixKI, lookK_hit, lookK_nil, Option.isSome_some, Option.isSome_none, seqF_tup, seqF_lst, seqF_scr, sz0, sz1, sz2, sz3, sz4, sz5, sz6, sz7, sz8, sz9, sz10, sz11, sz12, sz13, sz14, sz15, sz16, startE, isN, List.length_cons, List.length_nil, List.map_cons, List.map_nil, List.cons_append, List.nil_append, List.getElem?_cons_zero, List.getElem?_cons_succ, List.set_cons_zero, List.set_cons_succ, List.reduceReplicate, Nat.reduceAdd, Nat.reduceSub, Nat.zero_add, Option.map_some, decide_eq_true_eq, Bool.false_eq_true, Bool.not_true, Bool.not_false, if_false, if_true, true_and, and_true]
          by_cases hlt2 : x < y
          · simp only [hlt2, decide_true, wR_ok, wR_stuck, wR_exc, wR_bind, wR_var, wR_c, wR_1, wR_2, wR_nilA, wR_consA, wR_ite, wR_tup, wR_lst, wR_cellL, wR_asB, wR_test, wR_andT, wR_orT, wR_notT, onB_bl, wR_andV, wR_orV, wR_notV, wR_if, wR_call, wR_chain, wR_slice, wR_noPart, wR_part, wR_okO, wS_next, wS_fNext, wS_seq, wS_ret, wS_retN, wS_expr, wS_asg, wO_set, wO_some, wO_nils, wO_conss, wO_tup, wS_if, wS_for, wS_store, wS_par, on1_e, on2_e, onI_e, wR_range1, wR_range2, onSeq_some, wR_seqI, wR_zip, wR_enum, wR_lc, wR_yes, wR_sub, wR_add, wR_mul, wR_mod, wR_div, wR_pow, wR_neg, wR_lt, wR_le, wR_gt, wR_ge, wR_abs, wR_intC, wR_eqI, wR_eqS, wR_eqB, wR_isN, wR_lenL, wR_lenT, wR_listL, wR_listT, wR_tupL, wR_tupT, onO_some, wR_ixL, wR_ixT, sl_tup, sl_lst, sl_scr, isi_non, sub_non_int, sub_non_bool, sub_non_str, sub_non_tuple, sub_non_list, sub_non_dict, isi_bl, sub_bl_int, sub_bl_bool, sub_bl_str, sub_bl_tuple, sub_bl_list, sub_bl_dict, isi_int, sub_int_int, sub_int_bool, sub_int_str, sub_int_tuple, sub_int_list, sub_int_dict, isi_str, sub_str_int, sub_str_bool, sub_str_str, sub_str_tuple, sub_str_list, sub_str_dict, isi_tup, sub_tup_int, sub_tup_bool, sub_tup_str, sub_tup_tuple, sub_tup_list, sub_tup_dict, isi_lst, sub_lst_int, sub_lst_bool, sub_lst_str, sub_lst_tuple, sub_lst_list, sub_lst_dict, isi_dct, sub_dct_int, sub_dct_bool, sub_dct_str, sub_dct_tuple, sub_dct_list, sub_dct_dict, List.any_cons, List.any_nil, Bool.or_false, Bool.or_true, Bool.false_or, Bool.true_or, wR_addT, wR_addL, wO_star1, wR_inK, wR_inKI, wR_ixK, wR_ixKI, lookK_hit, lookK_nil, Option.isSome_some, Option.isSome_none, seqF_tup, seqF_lst, seqF_scr, sz0, sz1, sz2, sz3, sz4, sz5, sz6, sz7, sz8, sz9, sz10, sz11, sz12, sz13, sz14, sz15, sz16, startE, isN, List.length_cons, List.length_nil, List.map_cons, List.map_nil, List.cons_append, List.nil_append, List.getElem?_cons_zero, List.getElem?_cons_succ, List.set_cons_zero, List.set_cons_succ, List.reduceReplicate, Nat.reduceAdd, Nat.reduceSub, Nat.zero_add, Option.map_some, decide_eq_true_eq, Bool.false_eq_true, Bool.not_true, Bool.not_false, if_false, if_true, true_and, and_true]
            exact fin1 (by simp [badT, h0', hy, hlt2])
          · simp only [hlt2, decide_false, wR_ok, wR_stuck, wR_exc, wR_bind, wR_var, wR_c, wR_1, wR_2, wR_nilA, wR_consA, wR_ite, wR_tup, wR_lst, wR_cellL, wR_asB, wR_test, wR_andT, wR_orT, wR_notT, onB_bl, wR_andV, wR_orV, wR_notV, wR_if, wR_call, wR_chain, wR_slice, wR_noPart, wR_part, wR_okO, wS_next, wS_fNext, wS_seq, wS_ret, wS_retN, wS_expr, wS_asg, wO_set, wO_some, wO_nils, wO_conss, wO_tup, wS_if, wS_for, wS_store, wS_par, on1_e, on2_e, onI_e, wR_range1, wR_range2, onSeq_some, wR_seqI, wR_zip, wR_enum, wR_lc, wR_yes, wR_sub, wR_add, wR_mul, wR_mod, wR_div, wR_pow, wR_neg, wR_lt, wR_le, wR_gt, wR_ge, wR_abs, wR_intC, wR_eqI, wR_eqS, wR_eqB, wR_isN, wR_lenL, wR_lenT, wR_listL, wR_listT, wR_tupL, wR_tupT, onO_some, wR_ixL, wR_ixT, sl_tup, sl_lst, sl_scr, isi_non, sub_non_int, sub_non_bool, sub_non_str, sub_non_tuple, sub_non_list, sub_non_dict, isi_bl, sub_bl_int, sub_bl_bool, sub_bl_str, sub_bl_tuple, sub_bl_list, sub_bl_dict, isi_int, sub_int_int, sub_int_bool, sub_int_str, sub_int_tuple, sub_int_list, sub_int_dict, isi_str, sub_str_int, sub_str_bool, sub_str_str, sub_str_tuple, sub_str_list, sub_str_dict, isi_tup, sub_tup_int, sub_tup_bool, sub_tup_str, sub_tup_tuple, sub_tup_list, sub_tup_dict, isi_lst, sub_lst_int, sub_lst_bool, sub_lst_str, sub_lst_tuple, sub_lst_list, sub_lst_dict, isi_dct, sub_dct_int, sub_dct_bool, sub_dct_str, sub_dct_tuple, sub_dct_list, sub_dct_dict, List.any_cons, List.any_nil, Bool.or_false, Bool.or_true, Bool.false_or, Bool.true_or, wR_addT, wR_addL, wO_star1, wR_inK, wR_inKI, wR_ixK, wR_ixKI, lookK_hit, lookK_nil, Option.isSome_some, Option.isSome_none, seqF_tup, seqF_lst, seqF_scr, sz0, sz1, sz2, sz3, sz4, sz5, sz6, sz7, sz8, sz9, sz10, sz11, sz12, sz13, sz14, sz15, sz16, startE, isN, List.length_cons, List.length_nil, List.map_cons, List.map_nil, List.cons_append, List.nil_append, List.getElem?_cons_zero, List.getElem?_cons_succ, List.set_cons_zero, List.set_cons_succ, List.reduceReplicate, Nat.reduceAdd, Nat.reduceSub, Nat.zero_add, Option.map_some, decide_eq_true_eq, Bool.false_eq_true, Bool.not_true, Bool.not_false, if_false, if_true, true_and, and_true]
            exact fin2 (by simp [badT, hn, hn', h0, h0', hq1, hq4, hy, hlt, hlt2]) _ _
theorem isfall (t : List (List Int)) (o ρ : List D → D) (ho : Sqn o) (hρ : Sqn ρ) (hsq : ∀ r ∈ t, r.length = t.length) (g : G) : F_fall_of_table [tabD o ρ t] g = .ok (fallD (fallT t)) g := by
  refine wR_eq ?_
  have hq : Sq (tabD o ρ t) (t.map (rowD ρ)) := ho.h _
  unfold F_fall_of_table b_fall_of_table
  simp only [wR_body, wR_ok, wR_stuck, wR_exc, wR_bind, wR_var, wR_c, wR_1, wR_2, wR_nilA, wR_consA, wR_ite, wR_tup, wR_lst, wR_cellL, wR_asB, wR_test, wR_andT, wR_orT, wR_notT, onB_bl, wR_andV, wR_orV, wR_notV, wR_if, wR_call, wR_chain, wR_slice, wR_noPart, wR_part, wR_okO, wS_next, wS_fNext, wS_seq, wS_ret, wS_retN, wS_expr, wS_asg, wO_set, wO_some, wO_nils, wO_conss, wO_tup, wS_if, wS_for, wS_store, wS_par, on1_e, on2_e, onI_e, wR_range1, wR_range2, onSeq_some, wR_seqI, wR_zip, wR_enum, wR_lc, wR_yes, wR_sub, wR_add, wR_mul, wR_mod, wR_div, wR_pow, wR_neg, wR_lt, wR_le, wR_gt, wR_ge, wR_abs, wR_intC, wR_eqI, wR_eqS, wR_eqB, wR_isN, wR_lenL, wR_lenT, wR_listL, wR_listT, wR_tupL, wR_tupT, onO_some, wR_ixL, wR_ixT, sl_tup, sl_lst, sl_scr, isi_non, sub_non_int, sub_non_bool, sub_non_str, sub_non_tuple, sub_non_list, sub_non_dict, isi_bl, sub_bl_int, sub_bl_bool, sub_bl_str, sub_bl_tuple, sub_bl_list, sub_bl_dict, isi_int, sub_int_int, sub_int_bool, sub_int_str, sub_int_tuple, sub_int_list, sub_int_dict, isi_str, sub_str_int, sub_str_bool, sub_str_str, sub_str_tuple, sub_str_list, sub_str_dict, isi_tup, sub_tup_int, sub_tup_bool, sub_tup_str, sub_tup_tuple, sub_tup_list, sub_tup_dict, isi_lst, sub_lst_int, sub_lst_bool, sub_lst_str, sub_lst_tuple, sub_lst_list, sub_lst_dict, isi_dct, sub_dct_int, sub_dct_bool, sub_dct_str, sub_dct_tuple, sub_dct_list, sub_dct_dict, List.any_cons, List.any_nil, Bool.or_false, Bool.or_true, Bool.false_or, Bool.true_or, wR_addT, wR_addL, wO_star1, wR_inK, wR_inKI, wR_ixK, wR_ixKI, lookK_hit, lookK_nil, Option.isSome_some, Option.isSome_none, seqF_tup, seqF_lst, seqF_scr, sz0, sz1, sz2, sz3, sz4, sz5, sz6, sz7, sz8, sz9, sz10, sz11, sz12, sz13, sz14, sz15, sz16, startE, isN, List.length_cons, List.length_nil, List.map_cons, List.map_nil, List.cons_append, List.nil_append, List.getElem?_cons_zero, List.getElem?_cons_succ, List.set_cons_zero, List.set_cons_succ, List.reduceReplicate, Nat.reduceAdd, Nat.reduceSub, Nat.zero_add, Option.map_some, decide_eq_true_eq, Bool.false_eq_true, Bool.not_true, Bool.not_false, if_false, if_true, true_and, and_true, hq.seq]
  have main : ∀ (ts : List (List Int)) (n : Nat), t.drop n = ts → ∀ s1 s2 s3 s4 (E : Es), (match scanT (badT t) n ts with
      | some (i, j) => E.R (.tup [.int i, .int j]) g
      | none => ∀ s1 s2 s3 s4, E.N [.val (tabD o ρ t), s1, s2, s3, s4] g) →
      wS (loopF (gTupF (gConss (gSet 1) (gConss (gSet 2) gNils)) 2) (fFor (fEnum (fConsA (fVar 2) fNilA)) (gTupF (gConss (gSet 3) (gConss (gSet 4) gNils)) 2) (fSeq (fIfS (fAndT (fOrT (fTest (f2 (dEq false) (fVar 1) (fC (.int 0)))) (fTest (f2 (dEq false) (fVar 3) (fC (.int 0))))) (fTest (f2 (dEq true) (fVar 4) (fC (.int 0))))) (fRet (fTup (fConsA (fVar 1) (fConsA (fVar 3) fNilA)))) fNext) (fIfS (fOrT (fAndT (fTest (f2 dGt (fVar 1) (fC (.int 0)))) (fTest (f2 dLt (fVar 4) (f2 dIx (f2 dIx (fVar 0) (f2 dSub (fVar 1) (fC (.int 1)))) (fVar 3))))) (fAndT (fTest (f2 dGt (fVar 3) (fC (.int 0)))) (fTest (f2 dLt (fVar 4) (f2 dIx (fVar 2) (f2 dSub (fVar 3) (fC (.int 1)))))))) (fRet (fTup (fConsA (fVar 1) (fConsA (fVar 3) fNilA)))) fNext)))
        (enumD n (ts.map (rowD ρ))) [.val (tabD o ρ t), s1, s2, s3, s4] g) E := by
    intro ts
    induction ts with
    | nil =>
      intro n _ s1 s2 s3 s4 E h
      exact h _ _ _ _
    | cons r ts ih =>
      intro n hd s1 s2 s3 s4 E h
      have hr : t[n]? = some r := by
        have : (t.drop n)[0]? = some r := by rw [hd]; rfl
        simpa using this
      have hd2 : t.drop (n + 1) = ts := by
        have : t.drop (n + 1) = (t.drop n).drop 1 := by rw [List.drop_drop]
        rw [this, hd]; rfl
      have hqr : Sq (rowD ρ r) (r.map D.int) := hρ.h _
      rw [List.map_cons, enumD, wS_loop_cons]
      simp only [wR_ok, wR_stuck, wR_exc, wR_bind, wR_var, wR_c, wR_1, wR_2, wR_nilA, wR_consA, wR_ite, wR_tup, wR_lst, wR_cellL, wR_asB, wR_test, wR_andT, wR_orT, wR_notT, onB_bl, wR_andV, wR_orV, wR_notV, wR_if, wR_call, wR_chain, wR_slice, wR_noPart, wR_part, wR_okO, wS_next, wS_fNext, wS_seq, wS_ret, wS_retN, wS_expr, wS_asg, wO_set, wO_some, wO_nils, wO_conss, wO_tup, wS_if, wS_for, wS_store, wS_par, on1_e, on2_e, onI_e, wR_range1, wR_range2, onSeq_some, wR_seqI, wR_zip, wR_enum, wR_lc, wR_yes, wR_sub, wR_add, wR_mul, wR_mod, wR_div, wR_pow, wR_neg, wR_lt, wR_le, wR_gt, wR_ge, wR_abs, wR_intC, wR_eqI, wR_eqS, wR_eqB, wR_isN, wR_lenL, wR_lenT, wR_listL, wR_listT, wR_tupL, wR_tupT, onO_some, wR_ixL, wR_ixT, sl_tup, sl_lst, sl_scr, isi_non, sub_non_int, sub_non_bool, sub_non_str, sub_non_tuple, sub_non_list, sub_non_dict, isi_bl, sub_bl_int, sub_bl_bool, sub_bl_str, sub_bl_tuple, sub_bl_list, sub_bl_dict, isi_int, sub_int_int, sub_int_bool, sub_int_str, sub_int_tuple, sub_int_list, sub_int_dict, isi_str, sub_str_int, sub_str_bool, sub_str_str, sub_str_tuple, sub_str_list, sub_str_dict, isi_tup, sub_tup_int, sub_tup_bool, sub_tup_str, sub_tup_tuple, sub_tup_list, sub_tup_dict, isi_lst, sub_lst_int, sub_lst_bool, sub_lst_str, sub_lst_tuple, sub_lst_list, sub_lst_dict, isi_dct, sub_dct_int, sub_dct_bool, sub_dct_str, sub_dct_tuple, sub_dct_list, sub_dct_dict, List.any_cons, List.any_nil, Bool.or_false, Bool.or_true, Bool.false_or, Bool.true_or, wR_addT, wR_addL, wO_star1, wR_inK, wR_inKI, wR_ixK, wR_ixKI, lookK_hit, lookK_nil, Option.isSome_some, Option.isSome_none, seqF_tup, seqF_lst, seqF_scr, sz0, sz1, sz2, sz3, sz4, sz5, sz6, sz7, sz8, sz9, sz10, sz11, sz12, sz13, sz14, sz15, sz16, startE, isN, List.length_cons, List.length_nil, List.map_cons, List.map_nil, List.cons_append, List.nil_append, List.getElem?_cons_zero, List.getElem?_cons_succ, List.set_cons_zero, List.set_cons_succ, List.reduceReplicate, Nat.reduceAdd, Nat.reduceSub, Nat.zero_add, Option.map_some, decide_eq_true_eq, Bool.false_eq_true, Bool.not_true, Bool.not_false, if_false, if_true, true_and, and_true, hqr.seq]
      refine isfall_in t o ρ ho hρ hsq n r hr _ g r 0 rfl _ _ ?_
      unfold scanT at h
      cases e : scanR (badT t n r) 0 r with
      | some k => rw [e] at h; exact h
      | none =>
        rw [e] at h
        exact fun s3 s4 => ih (n + 1) hd2 _ _ _ _ E h
  refine main t 0 rfl _ _ _ _ _ ?_
  show match fallT t with
    | some (i, j) => _
    | none => _
  cases fallT t with
  | none => exact fun _ _ _ _ => ⟨rfl, rfl⟩
  | some p => exact ⟨rfl, rfl⟩
theorem tab_sq {t : List (List Int)} (h : isTabB t = true) : 1 ≤ t.length ∧ t.length ≤ 5 ∧ (∀ r ∈ t, r.length = t.length) ∧ ∀ r ∈ t, ∀ x ∈ r, 0 ≤ x ∧ x < 2 := by
  unfold isTabB at h
  simp only [Bool.and_eq_true, decide_eq_true_eq, List.all_eq_true, rowOk, belB] at h
  exact ⟨h.1.1, h.1.2, fun r hr => (h.2 r hr).1, fun r hr x hx => (h.2 r hr).2 x hx⟩
theorem needt {t : List (List Int)} {o ρ : List D → D} (ho : Sqn o) (hρ : Sqn ρ) (h1 : isTabB t = true) (h2 : fallT t = none) (p : D) (g : G) : F_need_table [p, tabD o ρ t] g = .ok .non g := by
  refine wR_eq ?_
  unfold F_need_table b_need_table
  simp only [wR_body, wR_ok, wR_stuck, wR_exc, wR_bind, wR_var, wR_c, wR_1, wR_2, wR_nilA, wR_consA, wR_ite, wR_tup, wR_lst, wR_cellL, wR_asB, wR_test, wR_andT, wR_orT, wR_notT, onB_bl, wR_andV, wR_orV, wR_notV, wR_if, wR_call, wR_chain, wR_slice, wR_noPart, wR_part, wR_okO, wS_next, wS_fNext, wS_seq, wS_ret, wS_retN, wS_expr, wS_asg, wO_set, wO_some, wO_nils, wO_conss, wO_tup, wS_if, wS_for, wS_store, wS_par, on1_e, on2_e, onI_e, wR_range1, wR_range2, onSeq_some, wR_seqI, wR_zip, wR_enum, wR_lc, wR_yes, wR_sub, wR_add, wR_mul, wR_mod, wR_div, wR_pow, wR_neg, wR_lt, wR_le, wR_gt, wR_ge, wR_abs, wR_intC, wR_eqI, wR_eqS, wR_eqB, wR_isN, wR_lenL, wR_lenT, wR_listL, wR_listT, wR_tupL, wR_tupT, onO_some, wR_ixL, wR_ixT, sl_tup, sl_lst, sl_scr, isi_non, sub_non_int, sub_non_bool, sub_non_str, sub_non_tuple, sub_non_list, sub_non_dict, isi_bl, sub_bl_int, sub_bl_bool, sub_bl_str, sub_bl_tuple, sub_bl_list, sub_bl_dict, isi_int, sub_int_int, sub_int_bool, sub_int_str, sub_int_tuple, sub_int_list, sub_int_dict, isi_str, sub_str_int, sub_str_bool, sub_str_str, sub_str_tuple, sub_str_list, sub_str_dict, isi_tup, sub_tup_int, sub_tup_bool, sub_tup_str, sub_tup_tuple, sub_tup_list, sub_tup_dict, isi_lst, sub_lst_int, sub_lst_bool, sub_lst_str, sub_lst_tuple, sub_lst_list, sub_lst_dict, isi_dct, sub_dct_int, sub_dct_bool, sub_dct_str, sub_dct_tuple, sub_dct_list, sub_dct_dict, List.any_cons, List.any_nil, Bool.or_false, Bool.or_true, Bool.false_or, Bool.true_or, wR_addT, wR_addL, wO_star1, wR_inK, wR_inKI, wR_ixK, wR_ixKI, lookK_hit, lookK_nil, Option.isSome_some, Option.isSome_none, seqF_tup, seqF_lst, seqF_scr, sz0, sz1, sz2, sz3, sz4, sz5, sz6, sz7, sz8, sz9, sz10, sz11, sz12, sz13, sz14, sz15, sz16, startE, isN, List.length_cons, List.length_nil, List.map_cons, List.map_nil, List.cons_append, List.nil_append, List.getElem?_cons_zero, List.getElem?_cons_succ, List.set_cons_zero, List.set_cons_succ, List.reduceReplicate, Nat.reduceAdd, Nat.reduceSub, Nat.zero_add, Option.map_some, decide_eq_true_eq, Bool.false_eq_true, Bool.not_true, Bool.not_false, if_false, if_true, true_and, and_true, eq_wR (istab o ρ ho hρ t g), h1, eq_wR (isfall t o ρ ho hρ (tab_sq h1).2.2.1 g), h2, fallD]
/-! ### splits -/
def isSplB (n : Nat) (ps : List Pr) : Bool := decide (ps.length = n) && ps.all fun p => belB p.1 n && belB p.2 n
def badS (ps : List Pr) (n : Nat) (a b : Int) : Bool := (decide (n = 0) && decide (a ≠ 0)) || (decide (0 < n) && decide (a < b))
def fallS (ps : List Pr) : Nat → List Pr → Option (Nat × Nat)
  | _, [] => none
  | n, p :: r => if badS ps n p.1 (ps.getD (n - 1) (0, 0)).1 = true then some (n, 0) else if badS ps n p.2 (ps.getD (n - 1) (0, 0)).2 = true then some (n, 1) else fallS ps (n + 1) r
theorem isfallS (ps : List Pr) (o : List D → D) (ho : Sqn o) (g : G) : F_fall_of_splits [prsD o ps] g = .ok (fallD (fallS ps 0 ps)) g := by
  refine wR_eq ?_
  have hq : Sq (prsD o ps) (ps.map pairD) := ho.h _
  unfold F_fall_of_splits b_fall_of_splits
  simp only [wR_body, wR_ok, wR_stuck, wR_exc, wR_bind, wR_var, wR_c, wR_1, wR_2, wR_nilA, wR_consA, wR_ite, wR_tup, wR_lst, wR_cellL, wR_asB, wR_test, wR_andT, wR_orT, wR_notT, onB_bl, wR_andV, wR_orV, wR_notV, wR_if, wR_call, wR_chain, wR_slice, wR_noPart, wR_part, wR_okO, wS_next, wS_fNext, wS_seq, wS_ret, wS_retN, wS_expr, wS_asg, wO_set, wO_some, wO_nils, wO_conss, wO_tup, wS_if, wS_for, wS_store, wS_par, on1_e, on2_e, onI_e, wR_range1, wR_range2, onSeq_some, wR_seqI, wR_zip, wR_enum, wR_lc, wR_yes, wR_sub, wR_add, wR_mul, wR_mod, wR_div, wR_pow, wR_neg, wR_lt, wR_le, wR_gt, wR_ge, wR_abs, wR_intC, wR_eqI, wR_eqS, wR_eqB, wR_isN, wR_lenL, wR_lenT, wR_listL, wR_listT, wR_tupL, wR_tupT, onO_some, wR_ixL, wR_ixT, sl_tup, sl_lst, sl_scr, isi_non, sub_non_int, sub_non_bool, sub_non_str, sub_non_tuple, sub_non_list, sub_non_dict, isi_bl, sub_bl_int, sub_bl_bool, sub_bl_str, sub_bl_tuple, sub_bl_list, sub_bl_dict, isi_int, sub_int_int, sub_int_bool, sub_int_str, sub_int_tuple, sub_int_list, sub_int_dict, isi_str, sub_str_int, sub_str_bool, sub_str_str, sub_str_tuple, sub_str_list, sub_str_dict, isi_tup, sub_tup_int, sub_tup_bool, sub_tup_str, sub_tup_tuple, sub_tup_list, sub_tup_dict, isi_lst, sub_lst_int, sub_lst_bool, sub_lst_str, sub_lst_tuple, sub_lst_list, sub_lst_dict, isi_dct, sub_dct_int, sub_dct_bool, sub_dct_str, sub_dct_tuple, sub_dct_list, sub_dct_dict, List.any_cons, List.any_nil, Bool.or_false, Bool.or_true, Bool.false_or, Bool.true_or, wR_addT, wR_addL, wO_star1, wR_inK, wR_inKI, wR_ixK, wR_ixKI, lookK_hit, lookK_nil, Option.isSome_some, Option.isSome_none, seqF_tup, seqF_lst, seqF_scr, sz0, sz1, sz2, sz3, sz4, sz5, sz6, sz7, sz8, sz9, sz10, sz11, sz12, sz13, sz14, sz15, sz16, startE, isN, List.length_cons, List.length_nil, List.map_cons, List.map_nil, List.cons_append, List.nil_append, List.getElem?_cons_zero, List.getElem?_cons_succ, List.set_cons_zero, List.set_cons_succ, List.reduceReplicate, Nat.reduceAdd, Nat.reduceSub, Nat.zero_add, Option.map_some, decide_eq_true_eq, Bool.false_eq_true, Bool.not_true, Bool.not_false, if_false, if_true, true_and, and_true, hq.seq]
  have main : ∀ (ts : List Pr) (n : Nat), ps.drop n = ts → ∀ s1 s2 s3 s4 (E : Es), (match fallS ps n ts with
      | some (i, j) => E.R (.tup [.int i, .int j]) g
      | none => ∀ s1 s2 s3 s4, E.N [.val (prsD o ps), s1, s2, s3, s4] g) →
      wS (loopF (gTupF (gConss (gSet 1) (gConss (gSet 2) gNils)) 2) (fFor (fEnum (fConsA (fVar 2) fNilA)) (gTupF (gConss (gSet 3) (gConss (gSet 4) gNils)) 2) (fIfS (fOrT (fAndT (fTest (f2 (dEq false) (fVar 1) (fC (.int 0)))) (fTest (f2 (dEq true) (fVar 4) (fC (.int 0))))) (fAndT (fTest (f2 dGt (fVar 1) (fC (.int 0)))) (fTest (f2 dLt (fVar 4) (f2 dIx (f2 dIx (fVar 0) (f2 dSub (fVar 1) (fC (.int 1)))) (fVar 3)))))) (fRet (fTup (fConsA (fVar 1) (fConsA (fVar 3) fNilA)))) fNext))
        (enumD n (ts.map pairD)) [.val (prsD o ps), s1, s2, s3, s4] g) E := by
    intro ts
    induction ts with
    | nil =>
      intro n _ s1 s2 s3 s4 E h
      exact h _ _ _ _
    | cons r ts ih =>
      intro n hd s1 s2 s3 s4 E h
      have hr : ps[n]? = some r := by
        have : (ps.drop n)[0]? = some r := by rw [hd]; rfl
        simpa using this
      have hnl : n < ps.length := (List.getElem?_eq_some_iff.mp hr).1
      have hd2 : ps.drop (n + 1) = ts := by
        have : ps.drop (n + 1) = (ps.drop n).drop 1 := by rw [List.drop_drop]
        rw [this, hd]; rfl
      have hz : ∀ k : Nat, decide ((k : Int) = 0) = decide (k = 0) := fun k => by by_cases e : k = 0 <;> simp [e]
      have hz2 : ∀ k : Nat, decide ((0 : Int) < (k : Int)) = decide (0 < k) := fun k => by by_cases e : 0 < k <;> simp [e]
      rw [List.map_cons, enumD, wS_loop_cons]
      have sp : seqF (pairD r) = some [.int r.1, .int r.2] := rfl
      unfold fallS at h
      simp only [wR_ok, wR_stuck, wR_exc, wR_bind, wR_var, wR_c, wR_1, wR_2, wR_nilA, wR_consA, wR_ite, wR_tup, wR_lst, wR_cellL, wR_asB, wR_test, wR_andT, wR_orT, wR_notT, onB_bl, wR_andV, wR_orV, wR_notV, wR_if, wR_call, wR_chain, wR_slice, wR_noPart, wR_part, wR_okO, wS_next, wS_fNext, wS_seq, wS_ret, wS_retN, wS_expr, wS_asg, wO_set, wO_some, wO_nils, wO_conss, wO_tup, wS_if, wS_for, wS_store, wS_par, on1_e, on2_e, onI_e, wR_range1, wR_range2, onSeq_some, wR_seqI, wR_zip, wR_enum, wR_lc, wR_yes, wR_sub, wR_add, wR_mul, wR_mod, wR_div, wR_pow, wR_neg, wR_lt, wR_le, wR_gt, wR_ge, wR_abs, wR_intC, wR_eqI, wR_eqS, wR_eqB, wR_isN, wR_lenL, wR_lenT, wR_listL, wR_listT, wR_tupL, wR_tupT, onO_some, wR_ixL, wR_ixT, sl_tup, sl_lst, sl_scr, isi_non, sub_non_int, sub_non_bool, sub_non_str, sub_non_tuple, sub_non_list, sub_non_dict, isi_bl, sub_bl_int, sub_bl_bool, sub_bl_str, sub_bl_tuple, sub_bl_list, sub_bl_dict, isi_int, sub_int_int, sub_int_bool, sub_int_str, sub_int_tuple, sub_int_list, sub_int_dict, isi_str, sub_str_int, sub_str_bool, sub_str_str, sub_str_tuple, sub_str_list, sub_str_dict, isi_tup, sub_tup_int, sub_tup_bool, sub_tup_str, sub_tup_tuple, sub_tup_list, sub_tup_dict, isi_lst, sub_lst_int, sub_lst_bool, sub_lst_str, sub_lst_tuple, sub_lst_list, sub_lst_dict, isi_dct, sub_dct_int, sub_dct_bool, sub_dct_str, sub_dct_tuple, sub_dct_list, sub_dct_dict, List.any_cons, List.any_nil, Bool.or_false, Bool.or_true, Bool.false_or, Bool.true_or, wR_addT, wR_addL, wO_star1, wR_inK, wR_inKI, wR_ixK, wR_ixKI, lookK_hit, lookK_nil, Option.isSome_some, Option.isSome_none, seqF_tup, seqF_lst, seqF_scr, sz0, sz1, sz2, sz3, sz4, sz5, sz6, sz7, sz8, sz9, sz10, sz11, sz12, sz13, sz14, sz15, sz16, startE, isN, List.length_cons, List.length_nil, List.map_cons, List.map_nil, List.cons_append, List.nil_append, List.getElem?_cons_zero, List.getElem?_cons_succ, List.set_cons_zero, List.set_cons_succ, List.reduceReplicate, Nat.reduceAdd, Nat.reduceSub, Nat.zero_add, Option.map_some, decide_eq_true_eq, Bool.false_eq_true, Bool.not_true, Bool.not_false, if_false, if_true, true_and, and_true, sp, enumD, wS_loop_cons, wS_loop_nil, hz, hz2, wR_ixQ hq]
      by_cases hn : n = 0
      · subst hn
        by_cases h1 : r.1 = 0
        · by_cases h2 : r.2 = 0
          · simp [wR_ok, wR_stuck, wR_exc, wR_bind, wR_var, wR_c, wR_1, wR_2, wR_nilA, wR_consA, wR_ite, wR_tup, wR_lst, wR_cellL, wR_asB, wR_test, wR_andT, wR_orT, wR_notT, onB_bl, wR_andV, wR_orV, wR_notV, wR_if, wR_call, wR_chain, wR_slice, wR_noPart, wR_part, wR_okO, wS_next, wS_fNext, wS_seq, wS_ret, wS_retN, wS_expr, wS_asg, wO_set, wO_some, wO_nils, wO_conss, wO_tup, wS_if, wS_for, wS_store, wS_par, on1_e, on2_e, onI_e, wR_range1, wR_range2, onSeq_some, wR_seqI, wR_zip, wR_enum, wR_lc, wR_yes, wR_sub, wR_add, wR_mul, wR_mod, wR_div, wR_pow, wR_neg, wR_lt, wR_le, wR_gt, wR_ge, wR_abs, wR_intC, wR_eqI, wR_eqS, wR_eqB, wR_isN, wR_lenL, wR_lenT, wR_listL, wR_listT, wR_tupL, wR_tupT, onO_some, wR_ixL, wR_ixT, sl_tup, sl_lst, sl_scr, isi_non, sub_non_int, sub_non_bool, sub_non_str, sub_non_tuple, sub_non_list, sub_non_dict, isi_bl, sub_bl_int, sub_bl_bool, sub_bl_str, sub_bl_tuple, sub_bl_list, sub_bl_dict, isi_int, sub_int_int, sub_int_bool, sub_int_str, sub_int_tuple, sub_int_list, sub_int_dict, isi_str, sub_str_int, sub_str_bool, sub_str_str, sub_str_tuple, sub_str_list, sub_str_dict, isi_tup, sub_tup_int, sub_tup_bool, sub_tup_str, sub_tup_tuple, sub_tup_list, sub_tup_dict, isi_lst, sub_lst_int, sub_lst_bool, sub_lst_str, sub_lst_tuple, sub_lst_list, sub_lst_dict, isi_dct, sub_dct_int, sub_dct_bool, sub_dct_str, sub_dct_tuple, sub_dct_list, sub_dct_dict, List.any_cons, List.any_nil, Bool.or_false, Bool.or_true, Bool.false_or, Bool.true_or, wR_addT, wR_addL, wO_star1, wR_inK, wR_inKI, wR_ixK, wR_ixKI, lookK_hit, lookK_nil, Option.isSome_some, Option.isSome_none, seqF_tup, seqF_lst, seqF_scr, sz0, sz1, sz2, sz3, sz4, sz5, sz6, sz7, sz8, sz9, sz10, sz11, sz12, sz13, sz14, sz15, sz16, startE, isN, List.length_cons, List.length_nil, List.map_cons, List.map_nil, List.cons_append, List.nil_append, List.getElem?_cons_zero, List.getElem?_cons_succ, List.set_cons_zero, List.set_cons_succ, List.reduceReplicate, Nat.reduceAdd, Nat.reduceSub, Nat.zero_add, Option.map_some, decide_eq_true_eq, Bool.false_eq_true, Bool.not_true, Bool.not_false, if_false, if_true, true_and, and_true, h1, h2, hz, hz2]
            exact ih 1 hd2 _ _ _ _ E (by simpa [badS, h1, h2] using h)
          · simp [wR_ok, wR_stuck, wR_exc, wR_bind, wR_var, wR_c, wR_1, wR_2, wR_nilA, wR_consA, wR_ite, wR_tup, wR_lst, wR_cellL, wR_asB, wR_test, wR_andT, wR_orT, wR_notT, onB_bl, wR_andV, wR_orV, wR_notV, wR_if, wR_call, wR_chain, wR_slice, wR_noPart, wR_part, wR_okO, wS_next, wS_fNext, wS_seq, wS_ret, wS_retN, wS_expr, wS_asg, wO_set, wO_some, wO_nils, wO_conss, wO_tup, wS_if, wS_for, wS_store, wS_par, on1_e, on2_e, onI_e, wR_range1, wR_range2, onSeq_some, wR_seqI, wR_zip, wR_enum, wR_lc, wR_yes, wR_sub, wR_add, wR_mul, wR_mod, wR_div, wR_pow, wR_neg, wR_lt, wR_le, wR_gt, wR_ge, wR_abs, wR_intC, wR_eqI, wR_eqS, wR_eqB, wR_isN, wR_lenL, wR_lenT, wR_listL, wR_listT, wR_tupL, wR_tupT, onO_some, wR_ixL, wR_ixT, sl_tup, sl_lst, sl_scr, isi_non, sub_non_int, sub_non_bool, sub_non_str, sub_non_tuple, sub_non_list, sub_non_dict, isi_bl, sub_bl_int, sub_bl_bool, sub_bl_str, sub_bl_tuple, sub_bl_list, sub_bl_dict, isi_int, sub_int_int, sub_int_bool, sub_int_str, sub_int_tuple, sub_int_list, sub_int_dict, isi_str, sub_str_int, sub_str_bool, sub_str_str, sub_str_tuple, sub_str_list, sub_str_dict, isi_tup, sub_tup_int, sub_tup_bool, sub_tup_str, sub_tup_tuple, sub_tup_list, sub_tup_dict, isi_lst, sub_lst_int, sub_lst_bool, sub_lst_str, sub_lst_tuple, sub_lst_list, sub_lst_dict, isi_dct, sub_dct_int, sub_dct_bool, sub_dct_str, sub_dct_tuple, sub_dct_list, sub_dct_dict, List.any_cons, List.any_nil, Bool.or_false, Bool.or_true, Bool.false_or, Bool.true_or, wR_addT, wR_addL, wO_star1, wR_inK, wR_inKI, wR_ixK, wR_ixKI, lookK_hit, lookK_nil, Option.isSome_some, Option.isSome_none, seqF_tup, seqF_lst, seqF_scr, sz0, sz1, sz2, sz3, sz4, sz5, sz6, sz7, sz8, sz9, sz10, sz11, sz12, sz13, sz14, sz15, sz16, startE, isN, List.length_cons, List.length_nil, List.map_cons, List.map_nil, List.cons_append, List.nil_append, List.getElem?_cons_zero, List.getElem?_cons_succ, List.set_cons_zero, List.set_cons_succ, List.reduceReplicate, Nat.reduceAdd, Nat.reduceSub, Nat.zero_add, Option.map_some, decide_eq_true_eq, Bool.false_eq_true, Bool.not_true, Bool.not_false, if_false, if_true, true_and, and_true, h1, h2, hz, hz2]
            simpa [badS, h1, h2] using h
        · simp [wR_ok, wR_stuck, wR_exc, wR_bind, wR_var, wR_c, wR_1, wR_2, wR_nilA, wR_consA, wR_ite, wR_tup, wR_lst, wR_cellL, wR_asB, wR_test, wR_andT, wR_orT, wR_notT, onB_bl, wR_andV, wR_orV, wR_notV, wR_if, wR_call, wR_chain, wR_slice, wR_noPart, wR_part, wR_okO, wS_next, wS_fNext, wS_seq, wS_ret, wS_retN, wS_expr, wS_asg, wO_set, wO_some, wO_nils, wO_conss, wO_tup, wS_if, wS_for, wS_store, wS_par, on1_e, on2_e, onI_e, wR_range1, wR_range2, onSeq_some, wR_seqI, wR_zip, wR_enum, wR_lc, wR_yes, wR_sub, wR_add, wR_mul, wR_mod, wR_div, wR_pow, wR_neg, wR_lt, wR_le, wR_gt, wR_ge, wR_abs, wR_intC, wR_eqI, wR_eqS, wR_eqB, wR_isN, wR_lenL, wR_lenT, wR_listL, wR_listT, wR_tupL, wR_tupT, onO_some, wR_ixL, wR_ixT, sl_tup, sl_lst, sl_scr, isi_non, sub_non_int, sub_non_bool, sub_non_str, sub_non_tuple, sub_non_list, sub_non_dict, isi_bl, sub_bl_int, sub_bl_bool, sub_bl_str, sub_bl_tuple, sub_bl_list, sub_bl_dict, isi_int, sub_int_int, sub_int_bool, sub_int_str, sub_int_tuple, sub_int_list, sub_int_dict, isi_str, sub_str_int, sub_str_bool, sub_str_str, sub_str_tuple, sub_str_list, sub_str_dict, isi_tup, sub_tup_int, sub_tup_bool, sub_tup_str, sub_tup_tuple, sub_tup_list, sub_tup_dict, isi_lst, sub_lst_int, sub_lst_bool, sub_lst_str, sub_lst_tuple, sub_lst_list, sub_lst_dict, isi_dct, sub_dct_int, sub_dct_bool, sub_dct_str, sub_dct_tuple, sub_dct_list, sub_dct_dict, List.any_cons, List.any_nil, Bool.or_false, Bool.or_true, Bool.false_or, Bool.true_or, wR_addT, wR_addL, wO_star1, wR_inK, wR_inKI, wR_ixK, wR_ixKI, lookK_hit, lookK_nil, Option.isSome_some, Option.isSome_none, seqF_tup, seqF_lst, seqF_scr, sz0, sz1, sz2, sz3, sz4, sz5, sz6, sz7, sz8, sz9, sz10, sz11, sz12, sz13, sz14, sz15, sz16, startE, isN, List.length_cons, List.length_nil, List.map_cons, List.map_nil, List.cons_append, List.nil_append, List.getElem?_cons_zero, List.getElem?_cons_succ, List.set_cons_zero, List.set_cons_succ, List.reduceReplicate, Nat.reduceAdd, Nat.reduceSub, Nat.zero_add, Option.map_some, decide_eq_true_eq, Bool.false_eq_true, Bool.not_true, Bool.not_false, if_false, if_true, true_and, and_true, h1, hz, hz2]
          simpa [badS, h1] using h
      · have hn' : 0 < n := by omega
        obtain ⟨q, hq1⟩ : ∃ q, ps[n - 1]? = some q := ⟨ps[n - 1]'(by omega), List.getElem?_eq_getElem (by omega)⟩
        simp only [hn, hn', decide_true, decide_false, wR_ok, wR_stuck, wR_exc, wR_bind, wR_var, wR_c, wR_1, wR_2, wR_nilA, wR_consA, wR_ite, wR_tup, wR_lst, wR_cellL, wR_asB, wR_test, wR_andT, wR_orT, wR_notT, onB_bl, wR_andV, wR_orV, wR_notV, wR_if, wR_call, wR_chain, wR_slice, wR_noPart, wR_part, wR_okO, wS_next, wS_fNext, wS_seq, wS_ret, wS_retN, wS_expr, wS_asg, wO_set, wO_some, wO_nils, wO_conss, wO_tup, wS_if, wS_for, wS_store, wS_par, on1_e, on2_e, onI_e, wR_range1, wR_range2, onSeq_some, wR_seqI, wR_zip, wR_enum, wR_lc, wR_yes, wR_sub, wR_add, wR_mul, wR_mod, wR_div, wR_pow, wR_neg, wR_lt, wR_le, wR_gt, wR_ge, wR_abs, wR_intC, wR_eqI, wR_eqS, wR_eqB, wR_isN, wR_lenL, wR_lenT, wR_listL, wR_listT, wR_tupL, wR_tupT, onO_some, wR_ixL, wR_ixT, sl_tup, sl_lst, sl_scr, isi_non, sub_non_int, sub_non_bool, sub_non_str, sub_non_tuple, sub_non_list, sub_non_dict, isi_bl, sub_bl_int, sub_bl_bool, sub_bl_str, sub_bl_tuple, sub_bl_list, sub_bl_dict, isi_int, sub_int_int, sub_int_bool, sub_int_str, sub_int_tuple, sub_int_list, sub_int_dict, isi_str, sub_str_int, sub_str_bool, sub_str_str, sub_str_tuple, sub_str_list, sub_str_dict, isi_tup, sub_tup_int, sub_tup_bool, sub_tup_str, sub_tup_tuple, sub_tup_list, sub_tup_dict, isi_lst, sub_lst_int, sub_lst_bool, sub_lst_str, sub_lst_tuple, sub_lst_list, sub_lst_dict, isi_dct, sub_dct_int, sub_dct_bool, sub_dct_str, sub_dct_tuple, sub_dct_list, sub_dct_dict, List.any_cons, List.any_nil, Bool.or_false, Bool.or_true, Bool.false_or, Bool.true_or, wR_addT, wR_addL, wO_star1, wR_inK, wR_inKI, wR_ixK, wR_ixKI, lookK_hit, lookK_nil, Option.isSome_some, Option.isSome_none, seqF_tup, seqF_lst, seqF_scr, sz0, sz1, sz2, sz3, sz4, sz5, sz6, sz7, sz8, sz9, sz10, sz11, sz12, sz13, sz14, sz15, sz16, startE, isN, List.length_cons, List.length_nil, List.map_cons, List.map_nil, List.cons_append, List.nil_append, List.getElem?_cons_zero, List.getElem?_cons_succ, List.set_cons_zero, List.set_cons_succ, List.reduceReplicate, Nat.reduceAdd, Nat.reduceSub, Nat.zero_add, Option.map_some, decide_eq_true_eq, Bool.false_eq_true, Bool.not_true, Bool.not_false, if_false, if_true, true_and, and_true, atI_nat1 hn', List.getElem?_map, hq1, pairD]
        by_cases h1 : r.1 < q.1
        · simp [wR_ok, wR_stuck, wR_exc, wR_bind, wR_var, wR_c, wR_1, wR_2, wR_nilA, wR_consA, wR_ite, wR_tup, wR_lst, wR_cellL, wR_asB, wR_test, wR_andT, wR_orT, wR_notT, onB_bl, wR_andV, wR_orV, wR_notV, wR_if, wR_call, wR_chain, wR_slice, wR_noPart, wR_part, wR_okO, wS_next, wS_fNext, wS_seq, wS_ret, wS_retN, wS_expr, wS_asg, wO_set, wO_some, wO_nils, wO_conss, wO_tup, wS_if, wS_for, wS_store, wS_par, on1_e, on2_e, onI_e, wR_range1, wR_range2, onSeq_some, wR_seqI, wR_zip, wR_enum, wR_lc, wR_yes, wR_sub, wR_add, wR_mul, wR_mod, wR_div, wR_pow, wR_neg, wR_lt, wR_le, wR_gt, wR_ge, wR_abs, wR_intC, wR_eqI, wR_eqS, wR_eqB, wR_isN, wR_lenL, wR_lenT, wR_listL, wR_listT, wR_tupL, wR_tupT, onO_some, wR_ixL, wR_ixT, sl_tup, sl_lst, sl_scr, isi_non, sub_non_int, sub_non_bool, sub_non_str, sub_non_tuple, sub_non_list, sub_non_dict, isi_bl, sub_bl_int, sub_bl_bool, sub_bl_str, sub_bl_tuple, sub_bl_list, sub_bl_dict, isi_int, sub_int_int, sub_int_bool, sub_int_str, sub_int_tuple, sub_int_list, sub_int_dict, isi_str, sub_str_int, sub_str_bool, sub_str_str, sub_str_tuple, sub_str_list, sub_str_dict, isi_tup, sub_tup_int, sub_tup_bool, sub_tup_str, sub_tup_tuple, sub_tup_list, sub_tup_dict, isi_lst, sub_lst_int, sub_lst_bool, sub_lst_str, sub_lst_tuple, sub_lst_list, sub_lst_dict, isi_dct, sub_dct_int, sub_dct_bool, sub_dct_str, sub_dct_tuple, sub_dct_list, sub_dct_dict, List.any_cons, List.any_nil, Bool.or_false, Bool.or_true, Bool.false_or, Bool.true_or, wR_addT, wR_addL, wO_star1, wR_inK, wR_inKI, wR_ixK, wR_ixKI, lookK_hit, lookK_nil, Option.isSome_some, Option.isSome_none, seqF_tup, seqF_lst, seqF_scr, sz0, sz1, sz2, sz3, sz4, sz5, sz6, sz7, sz8, sz9, sz10, sz11, sz12, sz13, sz14, sz15, sz16, startE, isN, List.length_cons, List.length_nil, List.map_cons, List.map_nil, List.cons_append, List.nil_append, List.getElem?_cons_zero, List.getElem?_cons_succ, List.set_cons_zero, List.set_cons_succ, List.reduceReplicate, Nat.reduceAdd, Nat.reduceSub, Nat.zero_add, Option.map_some, decide_eq_true_eq, Bool.false_eq_true, Bool.not_true, Bool.not_false, if_false, if_true, true_and, and_true, h1, atI_zero, atI_one, hn, hn']
          simpa [badS, h1, hn, hn', hq1] using h
        · by_cases h2 : r.2 < q.2
          · simp [wR_ok, wR_stuck, wR_exc, wR_bind, wR_var, wR_c, wR_1, wR_2, wR_nilA, wR_consA, wR_ite, wR_tup, wR_lst, wR_cellL, wR_asB, wR_test, wR_andT, wR_orT, wR_notT, onB_bl, wR_andV, wR_orV, wR_notV, wR_if, wR_call, wR_chain, wR_slice, wR_noPart, wR_part, wR_okO, wS_next, wS_fNext, wS_seq, wS_ret, wS_retN, wS_expr, wS_asg, wO_set, wO_some, wO_nils, wO_conss, wO_tup, wS_if, wS_for, wS_store, wS_par, on1_e, on2_e, onI_e, wR_range1, wR_range2, onSeq_some, wR_seqI, wR_zip, wR_enum, wR_lc, wR_yes, wR_sub, wR_add, wR_mul, wR_mod, wR_div, wR_pow, wR_neg, wR_lt, wR_le, wR_gt, wR_ge, wR_abs, wR_intC, wR_eqI, wR_eqS, wR_eqB, wR_isN, wR_lenL, wR_lenT, wR_listL, wR_listT, wR_tupL, wR_tupT, onO_some, wR_ixL, wR_ixT, sl_tup, sl_lst, sl_scr, isi_non, sub_non_int, sub_non_bool, sub_non_str, sub_non_tuple, sub_non_list, sub_non_dict, isi_bl, sub_bl_int, sub_bl_bool, sub_bl_str, sub_bl_tuple, sub_bl_list, sub_bl_dict, isi_int, sub_int_int, sub_int_bool, sub_int_str, sub_int_tuple, sub_int_list, sub_int_dict, isi_str, sub_str_int, sub_str_bool, sub_str_str, sub_str_tuple, sub_str_list, sub_str_dict, isi_tup, sub_tup_int, sub_tup_bool, sub_tup_str, sub_tup_tuple, sub_tup_list, sub_tup_dict, isi_lst, sub_lst_int, sub_lst_bool, sub_lst_str, sub_lst_tuple, sub_lst_list, sub_lst_dict, isi_dct, sub_dct_int, sub_dct_bool, sub_dct_str, sub_dct_tuple, sub_dct_list, sub_dct_dict, List.any_cons, List.any_nil, Bool.or_false, Bool.or_true, Bool.false_or, Bool.true_or, wR_addT, wR_addL, wO_star1, wR_inK, wR_inKI, wR_ixK, wR_ixKI, lookK_hit, lookK_nil, Option.isSome_some, Option.isSome_none, seqF_tup, seqF_lst, seqF_scr, sz0, sz1, sz2, sz3, sz4, sz5, sz6, sz7, sz8, sz9, sz10, sz11, sz12, sz13, sz14, sz15, sz16, startE, isN, List.length_cons, List.length_nil, List.map_cons, List.map_nil, List.cons_append, List.nil_append, List.getElem?_cons_zero, List.getElem?_cons_succ, List.set_cons_zero, List.set_cons_succ, List.reduceReplicate, Nat.reduceAdd, Nat.reduceSub, Nat.zero_add, Option.map_some, decide_eq_true_eq, Bool.false_eq_true, Bool.not_true, Bool.not_false, if_false, if_true, true_and, and_true, h1, h2, atI_zero, atI_one, hn, hn', atI_nat1 hn', hq1, wR_ixQ hq, hz, hz2, pairD]
            simpa [badS, h1, h2, hn, hn', hq1] using h
          · simp [wR_ok, wR_stuck, wR_exc, wR_bind, wR_var, wR_c, wR_1, wR_2, wR_nilA, wR_consA, wR_ite, wR_tup, wR_lst, wR_cellL, wR_asB, wR_test, wR_andT, wR_orT, wR_notT, onB_bl, wR_andV, wR_orV, wR_notV, wR_if, wR_call, wR_chain, wR_slice, wR_noPart, wR_part, wR_okO, wS_next, wS_fNext, wS_seq, wS_ret, wS_retN, wS_expr, wS_asg, wO_set, wO_some, wO_nils, wO_conss, wO_tup, wS_if, wS_for, wS_store, wS_par, on1_e, on2_e, onI_e, wR_range1, wR_range2, onSeq_some, wR_seqI, wR_zip, wR_enum, wR_lc, wR_yes, wR_sub, wR_add, wR_mul, wR_mod, wR_div, wR_pow, wR_neg, wR_lt, wR_le, wR_gt, wR_ge, wR_abs, wR_intC, wR_eqI, wR_eqS, wR_eqB, wR_isN, wR_lenL, wR_lenT, wR_listL, wR_listT, wR_tupL, wR_tupT, onO_some, wR_ixL, wR_ixT, sl_tup, sl_lst, sl_scr, isi_non, sub_non_int, sub_non_bool, sub_non_str, sub_non_tuple, sub_non_list, sub_non_dict, isi_bl, sub_bl_int, sub_bl_bool, sub_bl_str, sub_bl_tuple, sub_bl_list, sub_bl_dict, isi_int, sub_int_int, sub_int_bool, sub_int_str, sub_int_tuple, sub_int_list, sub_int_dict, isi_str, sub_str_int, sub_str_bool, sub_str_str, sub_str_tuple, sub_str_list, sub_str_dict, isi_tup, sub_tup_int, sub_tup_bool, sub_tup_str, sub_tup_tuple, sub_tup_list, sub_tup_dict, isi_lst, sub_lst_int, sub_lst_bool, sub_lst_str, sub_lst_tuple, sub_lst_list, sub_lst_dict, isi_dct, sub_dct_int, sub_dct_bool, sub_dct_str, sub_dct_tuple, sub_dct_list, sub_dct_dict, List.any_cons, List.any_nil, Bool.or_false, Bool.or_true, Bool.false_or, Bool.true_or, wR_addT, wR_addL, wO_star1, wR_inK, wR_inKI, wR_ixK, wR_ixKI, lookK_hit, lookK_nil, Option.isSome_some, Option.isSome_none, seqF_tup, seqF_lst, seqF_scr, sz0, sz1, sz2, sz3, sz4, sz5, sz6, sz7, sz8, sz9, sz10, sz11, sz12, sz13, sz14, sz15, sz16, startE, isN, List.length_cons, List.length_nil, List.map_cons, List.map_nil, List.cons_append, List.nil_append, List.getElem?_cons_zero, List.getElem?_cons_succ, List.set_cons_zero, List.set_cons_succ, List.reduceReplicate, Nat.reduceAdd, Nat.reduceSub, Nat.zero_add, Option.map_some, decide_eq_true_eq, Bool.false_eq_true, Bool.not_true, Bool.not_false, if_false, if_true, true_and, and_true, h1, h2, atI_zero, atI_one, hn, hn', atI_nat1 hn', hq1, wR_ixQ hq, hz, hz2, pairD]
            exact ih (n + 1) hd2 _ _ _ _ E (by simpa [badS, h1, h2, hn, hn', hq1] using h)
  refine main ps 0 rfl _ _ _ _ _ ?_
  cases fallS ps 0 ps with
  | none => exact fun _ _ _ _ => ⟨rfl, rfl⟩
  | some p => exact ⟨rfl, rfl⟩
theorem needs {n : Nat} {ps : List Pr} {o : List D → D} (ho : Sqn o) (h0 : n ≤ 5) (h1 : isSplB n ps = true) (h2 : fallS ps 0 ps = none) (g : G) : F_need_splits [prsD o ps, .int n] g = .ok .non g := by
  refine wR_eq ?_
  have hq : Sq (prsD o ps) (ps.map pairD) := ho.h _
  unfold isSplB at h1
  simp only [Bool.and_eq_true, decide_eq_true_eq] at h1
  obtain ⟨hl, ha⟩ := h1
  have hsz : (5 : Nat) ≤ sizeLine := by decide
  unfold F_need_splits b_need_splits
  simp only [wR_body, wR_ok, wR_stuck, wR_exc, wR_bind, wR_var, wR_c, wR_1, wR_2, wR_nilA, wR_consA, wR_ite, wR_tup, wR_lst, wR_cellL, wR_asB, wR_test, wR_andT, wR_orT, wR_notT, onB_bl, wR_andV, wR_orV, wR_notV, wR_if, wR_call, wR_chain, wR_slice, wR_noPart, wR_part, wR_okO, wS_next, wS_fNext, wS_seq, wS_ret, wS_retN, wS_expr, wS_asg, wO_set, wO_some, wO_nils, wO_conss, wO_tup, wS_if, wS_for, wS_store, wS_par, on1_e, on2_e, onI_e, wR_range1, wR_range2, onSeq_some, wR_seqI, wR_zip, wR_enum, wR_lc, wR_yes, wR_sub, wR_add, wR_mul, wR_mod, wR_div, wR_pow, wR_neg, wR_lt, wR_le, wR_gt, wR_ge, wR_abs, wR_intC, wR_eqI, wR_eqS, wR_eqB, wR_isN, wR_lenL, wR_lenT, wR_listL, wR_listT, wR_tupL, wR_tupT, onO_some, wR_ixL, wR_ixT, sl_tup, sl_lst, sl_scr, isi_non, sub_non_int, sub_non_bool, sub_non_str, sub_non_tuple, sub_non_list, sub_non_dict, isi_bl, sub_bl_int, sub_bl_bool, sub_bl_str, sub_bl_tuple, sub_bl_list, sub_bl_dict, isi_int, sub_int_int, sub_int_bool, sub_int_str, sub_int_tuple, sub_int_list, sub_int_dict, isi_str, sub_str_int, sub_str_bool, sub_str_str, sub_str_tuple, sub_str_list, sub_str_dict, isi_tup, sub_tup_int, sub_tup_bool, sub_tup_str, sub_tup_tuple, sub_tup_list, sub_tup_dict, isi_lst, sub_lst_int, sub_lst_bool, sub_lst_str, sub_lst_tuple, sub_lst_list, sub_lst_dict, isi_dct, sub_dct_int, sub_dct_bool, sub_dct_str, sub_dct_tuple, sub_dct_list, sub_dct_dict, List.any_cons, List.any_nil, Bool.or_false, Bool.or_true, Bool.false_or, Bool.true_or, wR_addT, wR_addL, wO_star1, wR_inK, wR_inKI, wR_ixK, wR_ixKI, lookK_hit, lookK_nil, Option.isSome_some, Option.isSome_none, seqF_tup, seqF_lst, seqF_scr, sz0, sz1, sz2, sz3, sz4, sz5, sz6, sz7, sz8, sz9, sz10, sz11, sz12, sz13, sz14, sz15, sz16, startE, isN, List.length_cons, List.length_nil, List.map_cons, List.map_nil, List.cons_append, List.nil_append, List.getElem?_cons_zero, List.getElem?_cons_succ, List.set_cons_zero, List.set_cons_succ, List.reduceReplicate, Nat.reduceAdd, Nat.reduceSub, Nat.zero_add, Option.map_some, decide_eq_true_eq, Bool.false_eq_true, Bool.not_true, Bool.not_false, if_false, if_true, true_and, and_true, wR_isiQ hq, wR_lenQ hq, hq.seq, List.length_map, hl, decide_true]
  refine ⟨by omega, ?_⟩
  rw [eq_wR (compF_map pairD (fun p => .bl (belB p.1 n && belB p.2 n)) ps fun x hx => ⟨_, gSet_at (by simp [wipeE]), rfl, wR_eq (by simp only [wR_ok, wR_stuck, wR_exc, wR_bind, wR_var, wR_c, wR_1, wR_2, wR_nilA, wR_consA, wR_ite, wR_tup, wR_lst, wR_cellL, wR_asB, wR_test, wR_andT, wR_orT, wR_notT, onB_bl, wR_andV, wR_orV, wR_notV, wR_if, wR_call, wR_chain, wR_slice, wR_noPart, wR_part, wR_okO, wS_next, wS_fNext, wS_seq, wS_ret, wS_retN, wS_expr, wS_asg, wO_set, wO_some, wO_nils, wO_conss, wO_tup, wS_if, wS_for, wS_store, wS_par, on1_e, on2_e, onI_e, wR_range1, wR_range2, onSeq_some, wR_seqI, wR_zip, wR_enum, wR_lc, wR_yes, wR_sub, wR_add, wR_mul, wR_mod, wR_div, wR_pow, wR_neg, wR_lt, wR_le, wR_gt, wR_ge, wR_abs, wR_intC, wR_eqI, wR_eqS, wR_eqB, wR_isN, wR_lenL, wR_lenT, wR_listL, wR_listT, wR_tupL, wR_tupT, onO_some, wR_ixL, wR_ixT, sl_tup, sl_lst, sl_scr, isi_non, sub_non_int, sub_non_bool, sub_non_str, sub_non_tuple, sub_non_list, sub_non_dict, isi_bl, sub_bl_int, sub_bl_bool, sub_bl_str, sub_bl_tuple, sub_bl_list, sub_bl_dict, isi_int, sub_int_int, sub_int_bool, sub_int_str, sub_int_tuple, sub_int_list, sub_int_dict, isi_str, sub_str_int, sub_str_bool, sub_str_str, sub_str_tuple, sub_str_list, sub_str_dict, isi_tup, sub_tup_int, sub_tup_bool, sub_tup_str, sub_tup_tuple, sub_tup_list, sub_tup_dict, isi_lst, sub_lst_int, sub_lst_bool, sub_lst_str, sub_lst_tuple, sub_lst_list, sub_lst_dict, isi_dct, sub_dct_int, sub_dct_bool, sub_dct_str, sub_dct_tuple, sub_dct_list, sub_dct_dict, List.any_cons, List.any_nil, Bool.or_false, Bool.or_true, Bool.false_or, Bool.true_or, wR_addT, wR_addL, wO_star1, wR_inK, wR_inKI, wR_ixK, wR_ixKI, lookK_hit, lookK_nil, Option.isSome_some, Option.isSome_none, seqF_tup, seqF_lst, seqF_scr, sz0, sz1, sz2, sz3, sz4, sz5, sz6, sz7, sz8, sz9, sz10, sz11, sz12, sz13, sz14, sz15, sz16, startE, isN, List.length_cons, List.length_nil, List.map_cons, List.map_nil, List.cons_append, List.nil_append, List.getElem?_cons_zero, List.getElem?_cons_succ, List.set_cons_zero, List.set_cons_succ, List.reduceReplicate, Nat.reduceAdd, Nat.reduceSub, Nat.zero_add, Option.map_some, decide_eq_true_eq, Bool.false_eq_true, Bool.not_true, Bool.not_false, if_false, if_true, true_and, and_true, wipeE, eq_wR (ispP _ _ _ _)])⟩), wR_allM]
  simp only [ha, wR_ok, wR_stuck, wR_exc, wR_bind, wR_var, wR_c, wR_1, wR_2, wR_nilA, wR_consA, wR_ite, wR_tup, wR_lst, wR_cellL, wR_asB, wR_test, wR_andT, wR_orT, wR_notT, onB_bl, wR_andV, wR_orV, wR_notV, wR_if, wR_call, wR_chain, wR_slice, wR_noPart, wR_part, wR_okO, wS_next, wS_fNext, wS_seq, wS_ret, wS_retN, wS_expr, wS_asg, wO_set, wO_some, wO_nils, wO_conss, wO_tup, wS_if, wS_for, wS_store, wS_par, on1_e, on2_e, onI_e, wR_range1, wR_range2, onSeq_some, wR_seqI, wR_zip, wR_enum, wR_lc, wR_yes, wR_sub, wR_add, wR_mul, wR_mod, wR_div, wR_pow, wR_neg, wR_lt, wR_le, wR_gt, wR_ge, wR_abs, wR_intC, wR_eqI, wR_eqS, wR_eqB, wR_isN, wR_lenL, wR_lenT, wR_listL, wR_listT, wR_tupL, wR_tupT, onO_some, wR_ixL, wR_ixT, sl_tup, sl_lst, sl_scr, isi_non, sub_non_int, sub_non_bool, sub_non_str, sub_non_tuple, sub_non_list, sub_non_dict, isi_bl, sub_bl_int, sub_bl_bool, sub_bl_str, sub_bl_tuple, sub_bl_list, sub_bl_dict, isi_int, sub_int_int, sub_int_bool, sub_int_str, sub_int_tuple, sub_int_list, sub_int_dict, isi_str, sub_str_int, sub_str_bool, sub_str_str, sub_str_tuple, sub_str_list, sub_str_dict, isi_tup, sub_tup_int, sub_tup_bool, sub_tup_str, sub_tup_tuple, sub_tup_list, sub_tup_dict, isi_lst, sub_lst_int, sub_lst_bool, sub_lst_str, sub_lst_tuple, sub_lst_list, sub_lst_dict, isi_dct, sub_dct_int, sub_dct_bool, sub_dct_str, sub_dct_tuple, sub_dct_list, sub_dct_dict, List.any_cons, List.any_nil, Bool.or_false, Bool.or_true, Bool.false_or, Bool.true_or, wR_addT, wR_addL, wO_star1, wR_inK, wR_inKI, wR_ixK, wR_ixKI, lookK_hit, lookK_nil, Option.isSome_some, Option.isSome_none, seqF_tup, seqF_lst, seqF_scr, sz0, sz1, sz2, sz3, sz4, sz5, sz6, sz7, sz8, sz9, sz10, sz11, sz12, sz13, sz14, sz15, sz16, startE, isN, List.length_cons, List.length_nil, List.map_cons, List.map_nil, List.cons_append, List.nil_append, List.getElem?_cons_zero, List.getElem?_cons_succ, List.set_cons_zero, List.set_cons_succ, List.reduceReplicate, Nat.reduceAdd, Nat.reduceSub, Nat.zero_add, Option.map_some, decide_eq_true_eq, Bool.false_eq_true, Bool.not_true, Bool.not_false, if_false, if_true, true_and, and_true, eq_wR (isfallS ps o ho g), h2, fallD]
/-! ### wants -/
def areWB (m n : Nat) (ws : List Pr) : Bool := match ws with
  | [a, b, c, d] => belB a.1 m && belB a.2 2 && (belB b.1 n && belB b.2 2) && (belB c.1 m && belB c.2 2) && (belB d.1 n && belB d.2 2)
  | _ => false
theorem limat (m n : Int) (k : Nat) (g : G) : F_limit_at [.tup [.int m, .int n], .int k] g = .ok (.int (if k % 2 = 0 then m else n)) g := by
  refine wR_eq ?_
  unfold F_limit_at b_limit_at
  simp (decide := true) only [wR_body, wR_ok, wR_stuck, wR_exc, wR_bind, wR_var, wR_c, wR_1, wR_2, wR_nilA, wR_consA, wR_ite, wR_tup, wR_lst, wR_cellL, wR_asB, wR_test, wR_andT, wR_orT, wR_notT, onB_bl, wR_andV, wR_orV, wR_notV, wR_if, wR_call, wR_chain, wR_slice, wR_noPart, wR_part, wR_okO, wS_next, wS_fNext, wS_seq, wS_ret, wS_retN, wS_expr, wS_asg, wO_set, wO_some, wO_nils, wO_conss, wO_tup, wS_if, wS_for, wS_store, wS_par, on1_e, on2_e, onI_e, wR_range1, wR_range2, onSeq_some, wR_seqI, wR_zip, wR_enum, wR_lc, wR_yes, wR_sub, wR_add, wR_mul, wR_mod, wR_div, wR_pow, wR_neg, wR_lt, wR_le, wR_gt, wR_ge, wR_abs, wR_intC, wR_eqI, wR_eqS, wR_eqB, wR_isN, wR_lenL, wR_lenT, wR_listL, wR_listT, wR_tupL, wR_tupT, onO_some, wR_ixL, wR_ixT, sl_tup, sl_lst, sl_scr, isi_non, sub_non_int, sub_non_bool, sub_non_str, sub_non_tuple, sub_non_list, sub_non_dict, isi_bl, sub_bl_int, sub_bl_bool, sub_bl_str, sub_bl_tuple, sub_bl_list, sub_bl_dict, isi_int, sub_int_int, sub_int_bool, sub_int_str, sub_int_tuple, sub_int_list, sub_int_dict, isi_str, sub_str_int, sub_str_bool, sub_str_str, sub_str_tuple, sub_str_list, sub_str_dict, isi_tup, sub_tup_int, sub_tup_bool, sub_tup_str, sub_tup_tuple, sub_tup_list, sub_tup_dict, isi_lst, sub_lst_int, sub_lst_bool, sub_lst_str, sub_lst_tuple, sub_lst_list, sub_lst_dict, isi_dct, sub_dct_int, sub_dct_bool, sub_dct_str, sub_dct_tuple, sub_dct_list, sub_dct_dict, List.any_cons, List.any_nil, Bool.or_false, Bool.or_true, Bool.false_or, Bool.true_or, wR_addT, wR_addL, wO_star1, wR_inK, wR_inKI, wR_ixK, wR_ixKI, lookK_hit, lookK_nil, Option.isSome_some, Option.isSome_none, seqF_tup, seqF_lst, seqF_scr, sz0, sz1, sz2, sz3, sz4, sz5, sz6, sz7, sz8, sz9, sz10, sz11, sz12, sz13, sz14, sz15, sz16, startE, isN, List.length_cons, List.length_nil, List.map_cons, List.map_nil, List.cons_append, List.nil_append, List.getElem?_cons_zero, List.getElem?_cons_succ, List.set_cons_zero, List.set_cons_succ, List.reduceReplicate, Nat.reduceAdd, Nat.reduceSub, Nat.zero_add, Option.map_some, decide_eq_true_eq, Bool.false_eq_true, Bool.not_true, Bool.not_false, if_false, if_true, true_and, and_true]
  rcases Nat.mod_two_eq_zero_or_one k with h | h
  · have : ((k : Int) % 2) = 0 := by omega
    simp only [this, atI_zero, h, wR_ok, wR_stuck, wR_exc, wR_bind, wR_var, wR_c, wR_1, wR_2, wR_nilA, wR_consA, wR_ite, wR_tup, wR_lst, wR_cellL, wR_asB, wR_test, wR_andT, wR_orT, wR_notT, onB_bl, wR_andV, wR_orV, wR_notV, wR_if, wR_call, wR_chain, wR_slice, wR_noPart, wR_part, wR_okO, wS_next, wS_fNext, wS_seq, wS_ret, wS_retN, wS_expr, wS_asg, wO_set, wO_some, wO_nils, wO_conss, wO_tup, wS_if, wS_for, wS_store, wS_par, on1_e, on2_e, onI_e, wR_range1, wR_range2, onSeq_some, wR_seqI, wR_zip, wR_enum, wR_lc, wR_yes, wR_sub, wR_add, wR_mul, wR_mod, wR_div, wR_pow, wR_neg, wR_lt, wR_le, wR_gt, wR_ge, wR_abs, wR_intC, wR_eqI, wR_eqS, wR_eqB, wR_isN, wR_lenL, wR_lenT, wR_listL, wR_listT, wR_tupL, wR_tupT, onO_some, wR_ixL, wR_ixT, sl_tup, sl_lst, sl_scr, isi_non, sub_non_int, sub_non_bool, sub_non_str, sub_non_tuple, sub_non_list, sub_non_dict, isi_bl, sub_bl_int, sub_bl_bool, sub_bl_str, sub_bl_tuple, sub_bl_list, sub_bl_dict, isi_int, sub_int_int, sub_int_bool, sub_int_str, sub_int_tuple, sub_int_list, sub_int_dict, isi_str, sub_str_int, sub_str_bool, sub_str_str, sub_str_tuple, sub_str_list, sub_str_dict, isi_tup, sub_tup_int, sub_tup_bool, sub_tup_str, sub_tup_tuple, sub_tup_list, sub_tup_dict, isi_lst, sub_lst_int, sub_lst_bool, sub_lst_str, sub_lst_tuple, sub_lst_list, sub_lst_dict, isi_dct, sub_dct_int, sub_dct_bool, sub_dct_str, sub_dct_tuple, sub_dct_list, sub_dct_dict, List.any_cons, List.any_nil, Bool.or_false, Bool.or_true, Bool.false_or, Bool.true_or, wR_addT, wR_addL, wO_star1, wR_inK, wR_inKI, wR_ixK, wR_ixKI, lookK_hit, lookK_nil, Option.isSome_some, Option.isSome_none, seqF_tup, seqF_lst, seqF_scr, sz0, sz1, sz2, sz3, sz4, sz5, sz6, sz7, sz8, sz9, sz10, sz11, sz12, sz13, sz14, sz15, sz16, startE, isN, List.length_cons, List.length_nil, List.map_cons, List.map_nil, List.cons_append, List.nil_append, List.getElem?_cons_zero, List.getElem?_cons_succ, List.set_cons_zero, List.set_cons_succ, List.reduceReplicate, Nat.reduceAdd, Nat.reduceSub, Nat.zero_add, Option.map_some, decide_eq_true_eq, Bool.false_eq_true, Bool.not_true, Bool.not_false, if_false, if_true, true_and, and_true]
  · have : ((k : Int) % 2) = 1 := by omega
    simp (decide := true) only [this, atI_one, h, wR_ok, wR_stuck, wR_exc, wR_bind, wR_var, wR_c, wR_1, wR_2, wR_nilA, wR_consA, wR_ite, wR_tup, wR_lst, wR_cellL, wR_asB, wR_test, wR_andT, wR_orT, wR_notT, onB_bl, wR_andV, wR_orV, wR_notV, wR_if, wR_call, wR_chain, wR_slice, wR_noPart, wR_part, wR_okO, wS_next, wS_fNext, wS_seq, wS_ret, wS_retN, wS_expr, wS_asg, wO_set, wO_some, wO_nils, wO_conss, wO_tup, wS_if, wS_for, wS_store, wS_par, on1_e, on2_e, onI_e, wR_range1, wR_range2, onSeq_some, wR_seqI, wR_zip, wR_enum, wR_lc, wR_yes, wR_sub, wR_add, wR_mul, wR_mod, wR_div, wR_pow, wR_neg, wR_lt, wR_le, wR_gt, wR_ge, wR_abs, wR_intC, wR_eqI, wR_eqS, wR_eqB, wR_isN, wR_lenL, wR_lenT, wR_listL, wR_listT, wR_tupL, wR_tupT, onO_some, wR_ixL, wR_ixT, sl_tup, sl_lst, sl_scr, isi_non, sub_non_int, sub_non_bool, sub_non_str, sub_non_tuple, sub_non_list, sub_non_dict, isi_bl, sub_bl_int, sub_bl_bool, sub_bl_str, sub_bl_tuple, sub_bl_list, sub_bl_dict, isi_int, sub_int_int, sub_int_bool, sub_int_str, sub_int_tuple, sub_int_list, sub_int_dict, isi_str, sub_str_int, sub_str_bool, sub_str_str, sub_str_tuple, sub_str_list, sub_str_dict, isi_tup, sub_tup_int, sub_tup_bool, sub_tup_str, sub_tup_tuple, sub_tup_list, sub_tup_dict, isi_lst, sub_lst_int, sub_lst_bool, sub_lst_str, sub_lst_tuple, sub_lst_list, sub_lst_dict, isi_dct, sub_dct_int, sub_dct_bool, sub_dct_str, sub_dct_tuple, sub_dct_list, sub_dct_dict, List.any_cons, List.any_nil, Bool.or_false, Bool.or_true, Bool.false_or, Bool.true_or, wR_addT, wR_addL, wO_star1, wR_inK, wR_inKI, wR_ixK, wR_ixKI, lookK_hit, lookK_nil, Option.isSome_some, Option.isSome_none, seqF_tup, seqF_lst, seqF_scr, sz0, sz1, sz2, sz3, sz4, sz5, sz6, sz7, sz8, sz9, sz10, sz11, sz12, sz13, sz14, sz15, sz16, startE, isN, List.length_cons, List.length_nil, List.map_cons, List.map_nil, List.cons_append, List.nil_append, List.getElem?_cons_zero, List.getElem?_cons_succ, List.set_cons_zero, List.set_cons_succ, List.reduceReplicate, Nat.reduceAdd, Nat.reduceSub, Nat.zero_add, Option.map_some, decide_eq_true_eq, Bool.false_eq_true, Bool.not_true, Bool.not_false, if_false, if_true, true_and, and_true]
theorem arew (m n : Nat) (ws : List Pr) (o : List D → D) (ho : Sqn o) (g : G) : F_are_wants [prsD o ws, .tup [.int m, .int n]] g = .ok (.bl (areWB m n ws)) g := by
  refine wR_eq ?_
  have hq : Sq (prsD o ws) (ws.map pairD) := ho.h _
  unfold F_are_wants b_are_wants
  simp only [wR_body, wR_ok, wR_stuck, wR_exc, wR_bind, wR_var, wR_c, wR_1, wR_2, wR_nilA, wR_consA, wR_ite, wR_tup, wR_lst, wR_cellL, wR_asB, wR_test, wR_andT, wR_orT, wR_notT, onB_bl, wR_andV, wR_orV, wR_notV, wR_if, wR_call, wR_chain, wR_slice, wR_noPart, wR_part, wR_okO, wS_next, wS_fNext, wS_seq, wS_ret, wS_retN, wS_expr, wS_asg, wO_set, wO_some, wO_nils, wO_conss, wO_tup, wS_if, wS_for, wS_store, wS_par, on1_e, on2_e, onI_e, wR_range1, wR_range2, onSeq_some, wR_seqI, wR_zip, wR_enum, wR_lc, wR_yes, wR_sub, wR_add, wR_mul, wR_mod, wR_div, wR_pow, wR_neg, wR_lt, wR_le, wR_gt, wR_ge, wR_abs, wR_intC, wR_eqI, wR_eqS, wR_eqB, wR_isN, wR_lenL, wR_lenT, wR_listL, wR_listT, wR_tupL, wR_tupT, onO_some, wR_ixL, wR_ixT, sl_tup, sl_lst, sl_scr, isi_non, sub_non_int, sub_non_bool, sub_non_str, sub_non_tuple, sub_non_list, sub_non_dict, isi_bl, sub_bl_int, sub_bl_bool, sub_bl_str, sub_bl_tuple, sub_bl_list, sub_bl_dict, isi_int, sub_int_int, sub_int_bool, sub_int_str, sub_int_tuple, sub_int_list, sub_int_dict, isi_str, sub_str_int, sub_str_bool, sub_str_str, sub_str_tuple, sub_str_list, sub_str_dict, isi_tup, sub_tup_int, sub_tup_bool, sub_tup_str, sub_tup_tuple, sub_tup_list, sub_tup_dict, isi_lst, sub_lst_int, sub_lst_bool, sub_lst_str, sub_lst_tuple, sub_lst_list, sub_lst_dict, isi_dct, sub_dct_int, sub_dct_bool, sub_dct_str, sub_dct_tuple, sub_dct_list, sub_dct_dict, List.any_cons, List.any_nil, Bool.or_false, Bool.or_true, Bool.false_or, Bool.true_or, wR_addT, wR_addL, wO_star1, wR_inK, wR_inKI, wR_ixK, wR_ixKI, lookK_hit, lookK_nil, Option.isSome_some, Option.isSome_none, seqF_tup, seqF_lst, seqF_scr, sz0, sz1, sz2, sz3, sz4, sz5, sz6, sz7, sz8, sz9, sz10, sz11, sz12, sz13, sz14, sz15, sz16, startE, isN, List.length_cons, List.length_nil, List.map_cons, List.map_nil, List.cons_append, List.nil_append, List.getElem?_cons_zero, List.getElem?_cons_succ, List.set_cons_zero, List.set_cons_succ, List.reduceReplicate, Nat.reduceAdd, Nat.reduceSub, Nat.zero_add, Option.map_some, decide_eq_true_eq, Bool.false_eq_true, Bool.not_true, Bool.not_false, if_false, if_true, true_and, and_true, wR_isiQ hq, wR_lenQ hq, hq.seq, List.length_map]
  by_cases h4 : ws.length = 4
  · match ws, h4 with
    | [a, b, c, d], _ =>
      have l0 := fun g => limat m n 0 g
      have l1 := fun g => limat m n 1 g
      have l2 := fun g => limat m n 2 g
      have l3 := fun g => limat m n 3 g
      simp (decide := true) only at l0 l1 l2 l3
      simp (decide := true) only [wR_ok, wR_stuck, wR_exc, wR_bind, wR_var, wR_c, wR_1, wR_2, wR_nilA, wR_consA, wR_ite, wR_tup, wR_lst, wR_cellL, wR_asB, wR_test, wR_andT, wR_orT, wR_notT, onB_bl, wR_andV, wR_orV, wR_notV, wR_if, wR_call, wR_chain, wR_slice, wR_noPart, wR_part, wR_okO, wS_next, wS_fNext, wS_seq, wS_ret, wS_retN, wS_expr, wS_asg, wO_set, wO_some, wO_nils, wO_conss, wO_tup, wS_if, wS_for, wS_store, wS_par, on1_e, on2_e, onI_e, wR_range1, wR_range2, onSeq_some, wR_seqI, wR_zip, wR_enum, wR_lc, wR_yes, wR_sub, wR_add, wR_mul, wR_mod, wR_div, wR_pow, wR_neg, wR_lt, wR_le, wR_gt, wR_ge, wR_abs, wR_intC, wR_eqI, wR_eqS, wR_eqB, wR_isN, wR_lenL, wR_lenT, wR_listL, wR_listT, wR_tupL, wR_tupT, onO_some, wR_ixL, wR_ixT, sl_tup, sl_lst, sl_scr, isi_non, sub_non_int, sub_non_bool, sub_non_str, sub_non_tuple, sub_non_list, sub_non_dict, isi_bl, sub_bl_int, sub_bl_bool, sub_bl_str, sub_bl_tuple, sub_bl_list, sub_bl_dict, isi_int, sub_int_int, sub_int_bool, sub_int_str, sub_int_tuple, sub_int_list, sub_int_dict, isi_str, sub_str_int, sub_str_bool, sub_str_str, sub_str_tuple, sub_str_list, sub_str_dict, isi_tup, sub_tup_int, sub_tup_bool, sub_tup_str, sub_tup_tuple, sub_tup_list, sub_tup_dict, isi_lst, sub_lst_int, sub_lst_bool, sub_lst_str, sub_lst_tuple, sub_lst_list, sub_lst_dict, isi_dct, sub_dct_int, sub_dct_bool, sub_dct_str, sub_dct_tuple, sub_dct_list, sub_dct_dict, List.any_cons, List.any_nil, Bool.or_false, Bool.or_true, Bool.false_or, Bool.true_or, wR_addT, wR_addL, wO_star1, wR_inK, wR_inKI, wR_ixK, wR_ixKI, lookK_hit, lookK_nil, Option.isSome_some, Option.isSome_none, seqF_tup, seqF_lst, seqF_scr, sz0, sz1, sz2, sz3, sz4, sz5, sz6, sz7, sz8, sz9, sz10, sz11, sz12, sz13, sz14, sz15, sz16, startE, isN, List.length_cons, List.length_nil, List.map_cons, List.map_nil, List.cons_append, List.nil_append, List.getElem?_cons_zero, List.getElem?_cons_succ, List.set_cons_zero, List.set_cons_succ, List.reduceReplicate, Nat.reduceAdd, Nat.reduceSub, Nat.zero_add, Option.map_some, decide_eq_true_eq, Bool.false_eq_true, Bool.not_true, Bool.not_false, if_false, if_true, true_and, and_true, enumD, compF, gTupF, gConss, gSet, gNils, wipeE, fYes, fCall, fConsA, fVar, fC, fNilA, Res.bind_ok, Option.bind_some, l0, l1, l2, l3, ispP]
      simp [wR, dAll, bools, areWB, Bool.and_assoc]
  · have h4' : ¬ ((ws.length : Int) = 4) := by omega
    have : areWB m n ws = false := by
      unfold areWB
      split
      · exact absurd rfl h4
      · rfl
    simp only [h4', decide_false, this, wR_ok, wR_stuck, wR_exc, wR_bind, wR_var, wR_c, wR_1, wR_2, wR_nilA, wR_consA, wR_ite, wR_tup, wR_lst, wR_cellL, wR_asB, wR_test, wR_andT, wR_orT, wR_notT, onB_bl, wR_andV, wR_orV, wR_notV, wR_if, wR_call, wR_chain, wR_slice, wR_noPart, wR_part, wR_okO, wS_next, wS_fNext, wS_seq, wS_ret, wS_retN, wS_expr, wS_asg, wO_set, wO_some, wO_nils, wO_conss, wO_tup, wS_if, wS_for, wS_store, wS_par, on1_e, on2_e, onI_e, wR_range1, wR_range2, onSeq_some, wR_seqI, wR_zip, wR_enum, wR_lc, wR_yes, wR_sub, wR_add, wR_mul, wR_mod, wR_div, wR_pow, wR_neg, wR_lt, wR_le, wR_gt, wR_ge, wR_abs, wR_intC, wR_eqI, wR_eqS, wR_eqB, wR_isN, wR_lenL, wR_lenT, wR_listL, wR_listT, wR_tupL, wR_tupT, onO_some, wR_ixL, wR_ixT, sl_tup, sl_lst, sl_scr, isi_non, sub_non_int, sub_non_bool, sub_non_str, sub_non_tuple, sub_non_list, sub_non_dict, isi_bl, sub_bl_int, sub_bl_bool, sub_bl_str, sub_bl_tuple, sub_bl_list, sub_bl_dict, isi_int, sub_int_int, sub_int_bool, sub_int_str, sub_int_tuple, sub_int_list, sub_int_dict, isi_str, sub_str_int, sub_str_bool, sub_str_str, sub_str_tuple, sub_str_list, sub_str_dict, isi_tup, sub_tup_int, sub_tup_bool, sub_tup_str, sub_tup_tuple, sub_tup_list, sub_tup_dict, isi_lst, sub_lst_int, sub_lst_bool, sub_lst_str, sub_lst_tuple, sub_lst_list, sub_lst_dict, isi_dct, sub_dct_int, sub_dct_bool, sub_dct_str, sub_dct_tuple, sub_dct_list, sub_dct_dict, List.any_cons, List.any_nil, Bool.or_false, Bool.or_true, Bool.false_or, Bool.true_or, wR_addT, wR_addL, wO_star1, wR_inK, wR_inKI, wR_ixK, wR_ixKI, lookK_hit, lookK_nil, Option.isSome_some, Option.isSome_none, seqF_tup, seqF_lst, seqF_scr, sz0, sz1, sz2, sz3, sz4, sz5, sz6, sz7, sz8, sz9, sz10, sz11, sz12, sz13, sz14, sz15, sz16, startE, isN, List.length_cons, List.length_nil, List.map_cons, List.map_nil, List.cons_append, List.nil_append, List.getElem?_cons_zero, List.getElem?_cons_succ, List.set_cons_zero, List.set_cons_succ, List.reduceReplicate, Nat.reduceAdd, Nat.reduceSub, Nat.zero_add, Option.map_some, decide_eq_true_eq, Bool.false_eq_true, Bool.not_true, Bool.not_false, if_false, if_true, true_and, and_true]
end FL

/-! PB2: lock books are made; their numbers -/
namespace FL
open PySem PySem.Spec PyProof.Rows L2 FR
structure Pt where
  keys : List (List Int)
  gaps : List (List Int)
  splits : List Pr
  get : List Pr
  walk : List Pr
  put : List Pr
  strike : List Pr
structure Pt.Ok (p : Pt) : Prop where
  k1 : isTabB p.keys = true
  k2 : fallT p.keys = none
  g1 : isTabB p.gaps = true
  g2 : fallT p.gaps = none
  s1 : isSplB p.gaps.length p.splits = true
  s2 : fallS p.splits 0 p.splits = none
  w1 : areWB p.keys.length p.gaps.length p.get = true
  w2 : areWB p.keys.length p.gaps.length p.walk = true
  w3 : areWB p.keys.length p.gaps.length p.put = true
  w4 : areWB p.keys.length p.gaps.length p.strike = true
def prL (ps : List Pr) : List Int := ps.flatMap fun p => [p.1, p.2]
def Pt.tabs (p : Pt) : List Int := p.keys.flatten ++ p.gaps.flatten ++ prL p.splits
def Pt.wants (p : Pt) : List Int := prL p.get ++ prL p.walk ++ prL p.put ++ prL p.strike
def Pt.nums (p : Pt) : List Int := p.tabs ++ p.wants
def Pt.partsD (p : Pt) : D := .lst [tabD .lst .lst p.keys, tabD .lst .lst p.gaps, prsD .lst p.splits, prsD .lst p.get, prsD .lst p.walk, prsD .lst p.put, prsD .lst p.strike]
def Pt.wantsD (p : Pt) : D := .dct [(.inr "get", prsD .tup p.get), (.inr "walk", prsD .tup p.walk), (.inr "put", prsD .tup p.put), (.inr "strike", prsD .tup p.strike)]
def Pt.fs4 (p : Pt) : List (Str × D) := [("own_keys", tabD .tup .tup p.keys), ("own_gaps", tabD .tup .tup p.gaps), ("own_splits", prsD .tup p.splits), ("own_wants", p.wantsD)]
def Pt.all (p : Pt) : List Int := (p.keys.length : Int) :: (p.gaps.length : Int) :: p.nums
def Pt.numsD (p : Pt) : D := .lst (p.all.map D.int)
def Pt.fs (p : Pt) : List (Str × D) := [("own_keys", tabD .tup .tup p.keys), ("own_gaps", tabD .tup .tup p.gaps), ("own_splits", prsD .tup p.splits), ("own_wants", p.wantsD), ("own_numbers", p.numsD)]
def Pt.bookD (p : Pt) : D := .ins "LockBook" p.fs
/-! ### sizes -/
theorem flat_len {n : Nat} {t : List (List Int)} (h : ∀ r ∈ t, r.length = n) : t.flatten.length = t.length * n := by
  induction t with
  | nil => simp
  | cons r t ih =>
    rw [List.flatten_cons, List.length_append, ih fun q hq => h q (List.mem_cons_of_mem _ hq), h r (List.mem_cons_self ..), List.length_cons, Nat.add_mul, Nat.one_mul, Nat.add_comm]
theorem prL_len (ps : List Pr) : (prL ps).length = 2 * ps.length := by
  induction ps with
  | nil => rfl
  | cons a b ih => simp only [prL, List.flatMap_cons, List.length_append, List.length_cons, List.length_nil] at ih ⊢; omega
theorem are_len {m n : Nat} {ws : List Pr} (h : areWB m n ws = true) : ws.length = 4 := by
  unfold areWB at h
  split at h
  · rfl
  · cases h
theorem spl_len {n : Nat} {ws : List Pr} (h : isSplB n ws = true) : ws.length = n := by
  unfold isSplB at h
  simp only [Bool.and_eq_true, decide_eq_true_eq] at h
  exact h.1
theorem Pt.Ok.tabs_len {p : Pt} (h : p.Ok) : p.tabs.length ≤ 60 := by
  obtain ⟨k1, k2, k3, _⟩ := tab_sq h.k1
  obtain ⟨g1, g2, g3, _⟩ := tab_sq h.g1
  unfold Pt.tabs
  rw [List.length_append, List.length_append, flat_len k3, flat_len g3, prL_len, spl_len h.s1]
  have := Nat.mul_le_mul k2 k2
  have := Nat.mul_le_mul g2 g2
  omega
theorem Pt.Ok.wants_len {p : Pt} (h : p.Ok) : p.wants.length = 32 := by
  unfold Pt.wants
  simp only [List.length_append, prL_len, are_len h.w1, are_len h.w2, are_len h.w3, are_len h.w4]
/-! ### flat lists -/
theorem cl_flat {i j : Nat} {env : Env} {g : G} {d : D} {xs acc : List D} (hij : i ≠ j) (hj : j < env.length) (h : env[i]? = some (.val d)) (hs : seqF d = some xs) (hl : acc.length + xs.length ≤ sizeLine) :
    clF (fSeqI (fVar i)) (gSet j) fYes [j] (eltF (fVar j)) env g acc = .ok (acc ++ xs) g := by
  have e1 : fSeqI (fVar i) env g = .ok xs g := wR_eq (by simp only [wR_seqI, wR_var, h, hs, onSeq_some]; exact ⟨by trivial, by trivial⟩)
  unfold clF
  rw [e1]
  have e2 : xs.flatMap (fun d => [d]) = xs := by simp
  show turnsF (gSet j) fYes (eltF (fVar j)) (wipeE env [j]) xs g acc = _
  have e3 := turnsF_pure (ft := gSet j) (fif := fYes) (inner := eltF (fVar j)) (env := wipeE env [j]) (g := g) (fun d => [d]) xs acc (fun x hx acc => ⟨_, gSet_at (by simpa [wipeE] using hj), rfl, fun hl => ?_⟩) (by rw [e2]; exact hl)
  · rw [e3, e2]
  · unfold eltF
    have e4 : fVar j ((wipeE env [j]).set j (.val x)) g = .ok x g := by
      unfold fVar
      rw [List.getElem?_set_self (by simpa [wipeE] using hj)]
    simp only [e4]
    rw [List.length_cons, List.length_nil] at hl
    rw [if_pos (by omega)]
theorem cl_flat2 {fi : Env → G → Res (List D)} {i j : Nat} {env : Env} {g : G} {rows acc : List D} (rf : D → List D) (hij : i ≠ j) (hi : i < env.length) (hj : j < env.length) (h : fi env g = .ok rows g) (hs : ∀ r ∈ rows, seqF r = some (rf r)) (hl : acc.length + (rows.flatMap rf).length ≤ sizeLine) :
    clF fi (gSet i) fYes [i, j] (clF (fSeqI (fVar i)) (gSet j) fYes [j] (eltF (fVar j))) env g acc = .ok (acc ++ rows.flatMap rf) g := by
  have e0 : clF fi (gSet i) fYes [i, j] (clF (fSeqI (fVar i)) (gSet j) fYes [j] (eltF (fVar j))) env g acc = turnsF (gSet i) fYes (clF (fSeqI (fVar i)) (gSet j) fYes [j] (eltF (fVar j))) (wipeE env [i, j]) rows g acc := by
    show (match fi env g with | .ok ds g1 => turnsF (gSet i) fYes (clF (fSeqI (fVar i)) (gSet j) fYes [j] (eltF (fVar j))) (wipeE env [i, j]) ds g1 acc | _ => .stuck) = _
    rw [h]
  rw [e0]
  refine turnsF_pure rf rows acc (fun x hx acc => ⟨_, gSet_at (by simpa [wipeE] using hi), rfl, fun hl => ?_⟩) hl
  exact cl_flat hij (by simpa [wipeE] using hj) (List.getElem?_set_self (by simpa [wipeE] using hi)) (hs x hx) hl
def seqs (d : D) : List D := (seqF d).getD []
theorem seqs_row {ρ : List D → D} (hρ : Sqn ρ) (r : List Int) : seqs (rowD ρ r) = r.map D.int := by
  unfold seqs
  have h : Sq (rowD ρ r) (r.map D.int) := hρ.h _
  rw [h.seq]; rfl
theorem seqs_pair (p : Pr) : seqs (pairD p) = [D.int p.1, D.int p.2] := rfl
theorem flat_tab {ρ : List D → D} (hρ : Sqn ρ) (t : List (List Int)) : (t.map (rowD ρ)).flatMap seqs = t.flatten.map D.int := by
  induction t with
  | nil => rfl
  | cons r t ih => rw [List.map_cons, List.flatMap_cons, ih, seqs_row hρ, List.flatten_cons, List.map_append]
theorem flat_prs (ps : List Pr) : (ps.map pairD).flatMap seqs = (prL ps).map D.int := by
  induction ps with
  | nil => rfl
  | cons r t ih => rw [List.map_cons, List.flatMap_cons, ih]; rfl
theorem wR_fldG {cs : List Str} {f c : Str} {d : D} {fs : List (Str × D)} {g : G} {Q : D → G → Prop} {X : Exn → G → Prop} (h : insD g d = some (c, fs)) : wR (dFld cs f d g) Q X = (c ∈ cs ∧ onO (fs.lookup f) fun v => Q v g) := by
  have e : dFld cs f d g = if c ∈ cs then okO (fs.lookup f) g else .stuck := by
    unfold dFld; simp only [h]
  rw [e, wR_ite, wR_okO, wR_stuck, ite_f]; rfl
theorem lk1 {α : Type} (a b c d : α) : lookK [((.inr "get" : Key), a), (.inr "walk", b), (.inr "put", c), (.inr "strike", d)] (.inr "get") = some a := rfl
theorem lk2 {α : Type} (a b c d : α) : lookK [((.inr "get" : Key), a), (.inr "walk", b), (.inr "put", c), (.inr "strike", d)] (.inr "walk") = some b := rfl
theorem lk3 {α : Type} (a b c d : α) : lookK [((.inr "get" : Key), a), (.inr "walk", b), (.inr "put", c), (.inr "strike", d)] (.inr "put") = some c := rfl
theorem lk4 {α : Type} (a b c d : α) : lookK [((.inr "get" : Key), a), (.inr "walk", b), (.inr "put", c), (.inr "strike", d)] (.inr "strike") = some d := rfl
theorem numbers_ok (p : Pt) (hp : p.Ok) (d : D) (g : G) (fs : List (Str × D)) (h : insD g d = some (("LockBook" : Str), p.fs4 ++ fs)) : F_LockBook_numbers [d] g = .ok (.lst (p.nums.map D.int)) g := by
  have a1 : (p.fs4 ++ fs).lookup ("own_keys" : Str) = some (tabD .tup .tup p.keys) := rfl
  have a2 : (p.fs4 ++ fs).lookup ("own_gaps" : Str) = some (tabD .tup .tup p.gaps) := rfl
  have a3 : (p.fs4 ++ fs).lookup ("own_splits" : Str) = some (prsD .tup p.splits) := rfl
  have a4 : (p.fs4 ++ fs).lookup ("own_wants" : Str) = some p.wantsD := rfl
  have hsz : (1024 : Nat) ≤ sizeLine := by decide
  have t1 := hp.tabs_len
  have t2 := hp.wants_len
  have sg : seqs (tabD .tup .tup p.keys) = p.keys.map (rowD .tup) := rfl
  have sg2 : seqs (tabD .tup .tup p.gaps) = p.gaps.map (rowD .tup) := rfl
  have sg3 : seqs (prsD .tup p.splits) = p.splits.map pairD := rfl
  have rowsOk : ∀ x ∈ [tabD .tup .tup p.keys, tabD .tup .tup p.gaps, prsD .tup p.splits], seqF x = some (seqs x) ∧ ∀ r ∈ seqs x, seqF r = some (seqs r) := fun x hx => by
    simp only [List.mem_cons, List.not_mem_nil, or_false] at hx
    rcases hx with rfl | rfl | rfl
    · exact ⟨rfl, fun r hr => by rw [sg] at hr; obtain ⟨q, _, rfl⟩ := List.mem_map.mp hr; rfl⟩
    · exact ⟨rfl, fun r hr => by rw [sg2] at hr; obtain ⟨q, _, rfl⟩ := List.mem_map.mp hr; rfl⟩
    · exact ⟨rfl, fun r hr => by rw [sg3] at hr; obtain ⟨q, _, rfl⟩ := List.mem_map.mp hr; rfl⟩
  have fm : [tabD .tup .tup p.keys, tabD .tup .tup p.gaps, prsD .tup p.splits].flatMap (fun x => (seqs x).flatMap seqs) = p.tabs.map D.int := by
    simp only [List.flatMap_cons, List.flatMap_nil, List.append_nil, sg, sg2, sg3, flat_tab sqn_t, flat_prs, Pt.tabs, List.map_append, List.append_assoc]
  refine wR_eq ?_
  unfold F_LockBook_numbers b_LockBook_numbers
  simp only [wR_body, wR_ok, wR_stuck, wR_exc, wR_bind, wR_var, wR_c, wR_1, wR_2, wR_nilA, wR_consA, wR_ite, wR_tup, wR_lst, wR_cellL, wR_asB, wR_test, wR_andT, wR_orT, wR_notT, onB_bl, wR_andV, wR_orV, wR_notV, wR_if, wR_call, wR_chain, wR_slice, wR_noPart, wR_part, wR_okO, wS_next, wS_fNext, wS_seq, wS_ret, wS_retN, wS_expr, wS_asg, wO_set, wO_some, wO_nils, wO_conss, wO_tup, wS_if, wS_for, wS_store, wS_par, on1_e, on2_e, onI_e, wR_range1, wR_range2, onSeq_some, wR_seqI, wR_zip, wR_enum, wR_lc, wR_yes, wR_sub, wR_add, wR_mul, wR_mod, wR_div, wR_pow, wR_neg, wR_lt, wR_le, wR_gt, wR_ge, wR_abs, wR_intC, wR_eqI, wR_eqS, wR_eqB, wR_isN, wR_lenL, wR_lenT, wR_listL, wR_listT, wR_tupL, wR_tupT, onO_some, wR_ixL, wR_ixT, sl_tup, sl_lst, sl_scr, isi_non, sub_non_int, sub_non_bool, sub_non_str, sub_non_tuple, sub_non_list, sub_non_dict, isi_bl, sub_bl_int, sub_bl_bool, sub_bl_str, sub_bl_tuple, sub_bl_list, sub_bl_dict, isi_int, sub_int_int, sub_int_bool, sub_int_str, sub_int_tuple, sub_int_list, sub_int_dict, isi_str, sub_str_int, sub_str_bool, sub_str_str, sub_str_tuple, sub_str_list, sub_str_dict, isi_tup, sub_tup_int, sub_tup_bool, sub_tup_str, sub_tup_tuple, sub_tup_list, sub_tup_dict, isi_lst, sub_lst_int, sub_lst_bool, sub_lst_str, sub_lst_tuple, sub_lst_list, sub_lst_dict, isi_dct, sub_dct_int, sub_dct_bool, sub_dct_str, sub_dct_tuple, sub_dct_list, sub_dct_dict, List.any_cons, List.any_nil, Bool.or_false, Bool.or_true, Bool.false_or, Bool.true_or, wR_addT, wR_addL, wO_star1, wR_inK, wR_inKI, wR_ixK, wR_ixKI, lookK_hit, lookK_nil, Option.isSome_some, Option.isSome_none, seqF_tup, seqF_lst, seqF_scr, sz0, sz1, sz2, sz3, sz4, sz5, sz6, sz7, sz8, sz9, sz10, sz11, sz12, sz13, sz14, sz15, sz16, startE, isN, List.length_cons, List.length_nil, List.map_cons, List.map_nil, List.cons_append, List.nil_append, List.getElem?_cons_zero, List.getElem?_cons_succ, List.set_cons_zero, List.set_cons_succ, List.reduceReplicate, Nat.reduceAdd, Nat.reduceSub, Nat.zero_add, Option.map_some, decide_eq_true_eq, Bool.false_eq_true, Bool.not_true, Bool.not_false, if_false, if_true, true_and, and_true, wR_fldG h, List.mem_cons, List.not_mem_nil, or_false, a1, a2, a3, wR_lcN]
  have e1 := turnsF_pure (ft := gSet 2) (fif := fYes) (inner := clF (fSeqI (fVar 2)) (gSet 3) fYes [3, 4] (clF (fSeqI (fVar 3)) (gSet 4) fYes [4] (eltF (fVar 4)))) (env := wipeE [Sl.val d, .un, .un, .un, .un, .un, .un, .un] [2, 3, 4]) (g := g) (fun x => (seqs x).flatMap seqs) [tabD .tup .tup p.keys, tabD .tup .tup p.gaps, prsD .tup p.splits] [] (fun x hx acc => ⟨_, gSet_at (by simp [wipeE]), rfl, fun hl => ?_⟩) (by rw [fm, List.length_map, List.length_nil]; omega)
  · simp only [eq_wR e1, fm, List.nil_append, wR_ok, wR_stuck, wR_exc, wR_bind, wR_var, wR_c, wR_1, wR_2, wR_nilA, wR_consA, wR_ite, wR_tup, wR_lst, wR_cellL, wR_asB, wR_test, wR_andT, wR_orT, wR_notT, onB_bl, wR_andV, wR_orV, wR_notV, wR_if, wR_call, wR_chain, wR_slice, wR_noPart, wR_part, wR_okO, wS_next, wS_fNext, wS_seq, wS_ret, wS_retN, wS_expr, wS_asg, wO_set, wO_some, wO_nils, wO_conss, wO_tup, wS_if, wS_for, wS_store, wS_par, on1_e, on2_e, onI_e, wR_range1, wR_range2, onSeq_some, wR_seqI, wR_zip, wR_enum, wR_lc, wR_yes, wR_sub, wR_add, wR_mul, wR_mod, wR_div, wR_pow, wR_neg, wR_lt, wR_le, wR_gt, wR_ge, wR_abs, wR_intC, wR_eqI, wR_eqS, wR_eqB, wR_isN, wR_lenL, wR_lenT, wR_listL, wR_listT, wR_tupL, wR_tupT, onO_some, wR_ixL, wR_ixT, sl_tup, sl_lst, sl_scr, isi_non, sub_non_int, sub_non_bool, sub_non_str, sub_non_tuple, sub_non_list, sub_non_dict, isi_bl, sub_bl_int, sub_bl_bool, sub_bl_str, sub_bl_tuple, sub_bl_list, sub_bl_dict, isi_int, sub_int_int, sub_int_bool, sub_int_str, sub_int_tuple, sub_int_list, sub_int_dict, isi_str, sub_str_int, sub_str_bool, sub_str_str, sub_str_tuple, sub_str_list, sub_str_dict, isi_tup, sub_tup_int, sub_tup_bool, sub_tup_str, sub_tup_tuple, sub_tup_list, sub_tup_dict, isi_lst, sub_lst_int, sub_lst_bool, sub_lst_str, sub_lst_tuple, sub_lst_list, sub_lst_dict, isi_dct, sub_dct_int, sub_dct_bool, sub_dct_str, sub_dct_tuple, sub_dct_list, sub_dct_dict, List.any_cons, List.any_nil, Bool.or_false, Bool.or_true, Bool.false_or, Bool.true_or, wR_addT, wR_addL, wO_star1, wR_inK, wR_inKI, wR_ixK, wR_ixKI, lookK_hit, lookK_nil, Option.isSome_some, Option.isSome_none, seqF_tup, seqF_lst, seqF_scr, sz0, sz1, sz2, sz3, sz4, sz5, sz6, sz7, sz8, sz9, sz10, sz11, sz12, sz13, sz14, sz15, sz16, startE, isN, List.length_cons, List.length_nil, List.map_cons, List.map_nil, List.cons_append, List.nil_append, List.getElem?_cons_zero, List.getElem?_cons_succ, List.set_cons_zero, List.set_cons_succ, List.reduceReplicate, Nat.reduceAdd, Nat.reduceSub, Nat.zero_add, Option.map_some, decide_eq_true_eq, Bool.false_eq_true, Bool.not_true, Bool.not_false, if_false, if_true, true_and, and_true, K_KINDS]
    have kd : ∀ x ∈ [D.str "get", D.str "walk", D.str "put", D.str "strike"], x = D.str "get" ∨ x = D.str "walk" ∨ x = D.str "put" ∨ x = D.str "strike" := fun x hx => by simpa using hx
    let wf : D → List Pr := fun x => match x with | .str s => if s = "get" then p.get else if s = "walk" then p.walk else if s = "put" then p.put else p.strike | _ => []
    have fm2 : [D.str "get", D.str "walk", D.str "put", D.str "strike"].flatMap (fun x => ((wf x).map pairD).flatMap seqs) = p.wants.map D.int := by
      simp only [List.flatMap_cons, List.flatMap_nil, List.append_nil, flat_prs, Pt.wants, List.map_append, List.append_assoc]
      simp (decide := true) only [wf, if_true, if_false]
    have e2 := turnsF_pure (ft := gSet 5) (fif := fYes) (inner := clF (fSeqI (f2 dIx (f1 (dFld ["LockBook"] "own_wants") (fVar 0)) (fVar 5))) (gSet 6) fYes [6, 7] (clF (fSeqI (fVar 6)) (gSet 7) fYes [7] (eltF (fVar 7)))) (env := wipeE [Sl.val d, .val (.lst (p.tabs.map D.int)), .un, .un, .un, .un, .un, .un] [5, 6, 7]) (g := g) (fun x => ((wf x).map pairD).flatMap seqs) [D.str "get", D.str "walk", D.str "put", D.str "strike"] [] (fun x hx acc => ⟨_, gSet_at (by simp [wipeE]), rfl, fun hl => ?_⟩) (by rw [fm2, List.length_map, List.length_nil]; omega)
    · simp only [eq_wR e2, fm2, List.nil_append, wR_ok, wR_stuck, wR_exc, wR_bind, wR_var, wR_c, wR_1, wR_2, wR_nilA, wR_consA, wR_ite, wR_tup, wR_lst, wR_cellL, wR_asB, wR_test, wR_andT, wR_orT, wR_notT, onB_bl, wR_andV, wR_orV, wR_notV, wR_if, wR_call, wR_chain, wR_slice, wR_noPart, wR_part, wR_okO, wS_next, wS_fNext, wS_seq, wS_ret, wS_retN, wS_expr, wS_asg, wO_set, wO_some, wO_nils, wO_conss, wO_tup, wS_if, wS_for, wS_store, wS_par, on1_e, on2_e, onI_e, wR_range1, wR_range2, onSeq_some, wR_seqI, wR_zip, wR_enum, wR_lc, wR_yes, wR_sub, wR_add, wR_mul, wR_mod, wR_div, wR_pow, wR_neg, wR_lt, wR_le, wR_gt, wR_ge, wR_abs, wR_intC, wR_eqI, wR_eqS, wR_eqB, wR_isN, wR_lenL, wR_lenT, wR_listL, wR_listT, wR_tupL, wR_tupT, onO_some, wR_ixL, wR_ixT, sl_tup, sl_lst, sl_scr, isi_non, sub_non_int, sub_non_bool, sub_non_str, sub_non_tuple, sub_non_list, sub_non_dict, isi_bl, sub_bl_int, sub_bl_bool, sub_bl_str, sub_bl_tuple, sub_bl_list, sub_bl_dict, isi_int, sub_int_int, sub_int_bool, sub_int_str, sub_int_tuple, sub_int_list, sub_int_dict, isi_str, sub_str_int, sub_str_bool, sub_str_str, sub_str_tuple, sub_str_list, sub_str_dict, isi_tup, sub_tup_int, sub_tup_bool, sub_tup_str, sub_tup_tuple, sub_tup_list, sub_tup_dict, isi_lst, sub_lst_int, sub_lst_bool, sub_lst_str, sub_lst_tuple, sub_lst_list, sub_lst_dict, isi_dct, sub_dct_int, sub_dct_bool, sub_dct_str, sub_dct_tuple, sub_dct_list, sub_dct_dict, List.any_cons, List.any_nil, Bool.or_false, Bool.or_true, Bool.false_or, Bool.true_or, wR_addT, wR_addL, wO_star1, wR_inK, wR_inKI, wR_ixK, wR_ixKI, lookK_hit, lookK_nil, Option.isSome_some, Option.isSome_none, seqF_tup, seqF_lst, seqF_scr, sz0, sz1, sz2, sz3, sz4, sz5, sz6, sz7, sz8, sz9, sz10, sz11, sz12, sz13, sz14, sz15, sz16, startE, isN, List.length_cons, List.length_nil, List.map_cons, List.map_nil, List.cons_append, List.nil_append, List.getElem?_cons_zero, List.getElem?_cons_succ, List.set_cons_zero, List.set_cons_succ, List.reduceReplicate, Nat.reduceAdd, Nat.reduceSub, Nat.zero_add, Option.map_some, decide_eq_true_eq, Bool.false_eq_true, Bool.not_true, Bool.not_false, if_false, if_true, true_and, and_true, List.length_map, Pt.nums, List.map_append]
      show p.tabs.length + p.wants.length ≤ sizeLine
      omega
    · refine cl_flat2 seqs (by decide) (by simp [wipeE]) (by simp [wipeE]) ?_ (fun r hr => ?_) hl
      · refine wR_eq ?_
        rcases kd x hx with rfl | rfl | rfl | rfl <;> simp (decide := true) [wipeE, wR_ok, wR_stuck, wR_exc, wR_bind, wR_var, wR_c, wR_1, wR_2, wR_nilA, wR_consA, wR_ite, wR_tup, wR_lst, wR_cellL, wR_asB, wR_test, wR_andT, wR_orT, wR_notT, onB_bl, wR_andV, wR_orV, wR_notV, wR_if, wR_call, wR_chain, wR_slice, wR_noPart, wR_part, wR_okO, wS_next, wS_fNext, wS_seq, wS_ret, wS_retN, wS_expr, wS_asg, wO_set, wO_some, wO_nils, wO_conss, wO_tup, wS_if, wS_for, wS_store, wS_par, on1_e, on2_e, onI_e, wR_range1, wR_range2, onSeq_some, wR_seqI, wR_zip, wR_enum, wR_lc, wR_yes, wR_sub, wR_add, wR_mul, wR_mod, wR_div, wR_pow, wR_neg, wR_lt, wR_le, wR_gt, wR_ge, wR_abs, wR_intC, wR_eqI, wR_eqS, wR_eqB, wR_isN, wR_lenL, wR_lenT, wR_listL, wR_listT, wR_tupL, wR_tupT, onO_some, wR_ixL, wR_ixT, sl_tup, sl_lst, sl_scr, isi_non, sub_non_int, sub_non_bool, sub_non_str, sub_non_tuple, sub_non_list, sub_non_dict, isi_bl, sub_bl_int, sub_bl_bool, sub_bl_str, sub_bl_tuple, sub_bl_list, sub_bl_dict, isi_int, sub_int_int, sub_int_bool, sub_int_str, sub_int_tuple, sub_int_list, sub_int_dict, isi_str, sub_str_int, sub_str_bool, sub_str_str, sub_str_tuple, sub_str_list, sub_str_dict, isi_tup, sub_tup_int, sub_tup_bool, sub_tup_str, sub_tup_tuple, sub_tup_list, sub_tup_dict, isi_lst, sub_lst_int, sub_lst_bool, sub_lst_str, sub_lst_tuple, sub_lst_list, sub_lst_dict, isi_dct, sub_dct_int, sub_dct_bool, sub_dct_str, sub_dct_tuple, sub_dct_list, sub_dct_dict, List.any_cons, List.any_nil, Bool.or_false, Bool.or_true, Bool.false_or, Bool.true_or, wR_addT, wR_addL, wO_star1, wR_inK, wR_inKI, wR_ixK, wR_ixKI, lookK_hit, lookK_nil, Option.isSome_some, Option.isSome_none, seqF_tup, seqF_lst, seqF_scr, sz0, sz1, sz2, sz3, sz4, sz5, sz6, sz7, sz8, sz9, sz10, sz11, sz12, sz13, sz14, sz15, sz16, startE, isN, List.length_cons, List.length_nil, List.map_cons, List.map_nil, List.cons_append, List.nil_append, List.getElem?_cons_zero, List.getElem?_cons_succ, List.set_cons_zero, List.set_cons_succ, List.reduceReplicate, Nat.reduceAdd, Nat.reduceSub, Nat.zero_add, Option.map_some, decide_eq_true_eq, Bool.false_eq_true, Bool.not_true, Bool.not_false, if_false, if_true, true_and, and_true, wR_fldG h, a4, Pt.wantsD, lk1, lk2, lk3, lk4, prsD, wf]
      · obtain ⟨q, _, rfl⟩ := List.mem_map.mp hr
        rfl
  · refine cl_flat2 seqs (by decide) (by simp [wipeE]) (by simp [wipeE]) ?_ (rowsOk x hx).2 hl
    refine wR_eq ?_
    simp only [wipeE, wR_ok, wR_stuck, wR_exc, wR_bind, wR_var, wR_c, wR_1, wR_2, wR_nilA, wR_consA, wR_ite, wR_tup, wR_lst, wR_cellL, wR_asB, wR_test, wR_andT, wR_orT, wR_notT, onB_bl, wR_andV, wR_orV, wR_notV, wR_if, wR_call, wR_chain, wR_slice, wR_noPart, wR_part, wR_okO, wS_next, wS_fNext, wS_seq, wS_ret, wS_retN, wS_expr, wS_asg, wO_set, wO_some, wO_nils, wO_conss, wO_tup, wS_if, wS_for, wS_store, wS_par, on1_e, on2_e, onI_e, wR_range1, wR_range2, onSeq_some, wR_seqI, wR_zip, wR_enum, wR_lc, wR_yes, wR_sub, wR_add, wR_mul, wR_mod, wR_div, wR_pow, wR_neg, wR_lt, wR_le, wR_gt, wR_ge, wR_abs, wR_intC, wR_eqI, wR_eqS, wR_eqB, wR_isN, wR_lenL, wR_lenT, wR_listL, wR_listT, wR_tupL, wR_tupT, onO_some, wR_ixL, wR_ixT, sl_tup, sl_lst, sl_scr, isi_non, sub_non_int, sub_non_bool, sub_non_str, sub_non_tuple, sub_non_list, sub_non_dict, isi_bl, sub_bl_int, sub_bl_bool, sub_bl_str, sub_bl_tuple, sub_bl_list, sub_bl_dict, isi_int, sub_int_int, sub_int_bool, sub_int_str, sub_int_tuple, sub_int_list, sub_int_dict, isi_str, sub_str_int, sub_str_bool, sub_str_str, sub_str_tuple, sub_str_list, sub_str_dict, isi_tup, sub_tup_int, sub_tup_bool, sub_tup_str, sub_tup_tuple, sub_tup_list, sub_tup_dict, isi_lst, sub_lst_int, sub_lst_bool, sub_lst_str, sub_lst_tuple, sub_lst_list, sub_lst_dict, isi_dct, sub_dct_int, sub_dct_bool, sub_dct_str, sub_dct_tuple, sub_dct_list, sub_dct_dict, List.any_cons, List.any_nil, Bool.or_false, Bool.or_true, Bool.false_or, Bool.true_or, wR_addT, wR_addL, wO_star1, wR_inK, wR_inKI, wR_ixK, wR_ixKI, lookK_hit, lookK_nil, Option.isSome_some, Option.isSome_none, seqF_tup, seqF_lst, seqF_scr, sz0, sz1, sz2, sz3, sz4, sz5, sz6, sz7, sz8, sz9, sz10, sz11, sz12, sz13, sz14, sz15, sz16, startE, isN, List.length_cons, List.length_nil, List.map_cons, List.map_nil, List.cons_append, List.nil_append, List.getElem?_cons_zero, List.getElem?_cons_succ, List.set_cons_zero, List.set_cons_succ, List.reduceReplicate, Nat.reduceAdd, Nat.reduceSub, Nat.zero_add, Option.map_some, decide_eq_true_eq, Bool.false_eq_true, Bool.not_true, Bool.not_false, if_false, if_true, true_and, and_true, (rowsOk x hx).1]
/-! ### a lock book is made -/
theorem get_last {g : G} {c : Cell} : (g ++ [c])[g.length]? = some c := by simp
theorem set_last {g : G} {c c' : Cell} : (g ++ [c]).set g.length c' = g ++ [c'] := by
  rw [List.set_append_right _ _ (Nat.le_refl _), Nat.sub_self]; rfl
/-- one entry after the other -/
theorem turnsK_pure {ft : D → G → Env → Option Env} {fif : Env → G → Res Bool} {fk fv : Env → G → Res D} {env : Env} {g : G} (v : D → D) (kk : D → Key) : ∀ (ds : List D) (acc : List (Key × D)), (∀ d ∈ ds, ∃ e, ft d g env = some e ∧ fif e g = .ok true g ∧ fk e g = .ok d g ∧ fv e g = .ok (v d) g ∧ keyD d = some (kk d)) → acc.length + ds.length ≤ sizeLine →
    (∀ d ∈ ds, ∀ a ∈ acc, a.1 ≠ kk d) → ds.Pairwise (fun a b => kk a ≠ kk b) → turnsK ft fif (putF2 fk fv) env ds g acc = .ok (acc ++ ds.map fun d => (kk d, v d)) g
  | [], acc, _, _, _, _ => by simp [turnsK]
  | d :: ds, acc, h, hl, h1, h2 => by
    obtain ⟨e, a1, a2, a3, a4, a5⟩ := h d (List.mem_cons_self ..)
    rw [List.length_cons] at hl
    have hk : setK acc (kk d) (v d) = acc ++ [(kk d, v d)] := by
      unfold setK
      rw [if_neg]
      intro z
      obtain ⟨a, ha, q⟩ := List.any_eq_true.mp z
      exact h1 d (List.mem_cons_self ..) a ha (of_decide_eq_true q)
    have e1 : putF2 fk fv e g acc = .ok (acc ++ [(kk d, v d)]) g := by
      unfold putF2
      simp only [a3, a4, a5]
      rw [if_pos (by omega), hk]
    have h4 := turnsK_pure v kk ds (acc ++ [(kk d, v d)]) (fun x hx => h x (List.mem_cons_of_mem _ hx)) (by rw [List.length_append, List.length_cons, List.length_nil]; omega) (fun x hx a ha => by
      rcases List.mem_append.mp ha with z | z
      · exact h1 x (List.mem_cons_of_mem _ hx) a z
      · simp only [List.mem_cons, List.not_mem_nil, or_false] at z
        subst z
        exact (List.pairwise_cons.mp h2).1 x hx) (List.pairwise_cons.mp h2).2
    simp only [turnsK, a1, a2, e1, h4, List.map_cons, List.append_assoc, List.cons_append, List.nil_append]
theorem init_ok (p : Pt) (hp : p.Ok) {o1 ρ1 o2 ρ2 o3 o4 o5 o6 o7 : List D → D} (h1 : Sqn o1) (r1 : Sqn ρ1) (h2 : Sqn o2) (r2 : Sqn ρ2) (h3 : Sqn o3) (h4 : Sqn o4) (h5 : Sqn o5) (h6 : Sqn o6) (h7 : Sqn o7) (g : G) :
    F_LockBook___init__ [.ref g.length, tabD o1 ρ1 p.keys, tabD o2 ρ2 p.gaps, prsD o3 p.splits, prsD o4 p.get, prsD o5 p.walk, prsD o6 p.put, prsD o7 p.strike] (g ++ [.ins "LockBook" []]) = .ok .non (g ++ [.ins "LockBook" p.fs]) := by
  have q1 : Sq (tabD o1 ρ1 p.keys) (p.keys.map (rowD ρ1)) := h1.h _
  have q2 : Sq (tabD o2 ρ2 p.gaps) (p.gaps.map (rowD ρ2)) := h2.h _
  have q3 : Sq (prsD o3 p.splits) (p.splits.map pairD) := h3.h _
  obtain ⟨k1, k2, k3, _⟩ := tab_sq hp.k1
  obtain ⟨g1, g2, g3, _⟩ := tab_sq hp.g1
  have hsz : (1024 : Nat) ≤ sizeLine := by decide
  have wr : F_LockBook___init__ [.ref g.length, tabD o1 ρ1 p.keys, tabD o2 ρ2 p.gaps, prsD o3 p.splits, prsD o4 p.get, prsD o5 p.walk, prsD o6 p.put, prsD o7 p.strike] (g ++ [.ins "LockBook" []]) = .ok .non (g ++ [.ins "LockBook" p.fs]) := by
    refine wR_eq ?_
    unfold F_LockBook___init__ b_LockBook___init__
    have hd : ∀ (env : Env) (g : G) (a b c d : D), env[4]? = some (.val a) → env[5]? = some (.val b) → env[6]? = some (.val c) → env[7]? = some (.val d) → fDisp [((fC (.str "get")), (fVar 4)), ((fC (.str "walk")), (fVar 5)), ((fC (.str "put")), (fVar 6)), ((fC (.str "strike")), (fVar 7))] env g = .ok (.dct [(.inr "get", a), (.inr "walk", b), (.inr "put", c), (.inr "strike", d)]) g := fun env g a b c d e1 e2 e3 e4 => by
      simp only [fDisp, fPairs, fC, fVar, e1, e2, e3, e4, Res.bind_ok]
      rfl
    simp only [wR_body, wR_ok, wR_stuck, wR_exc, wR_bind, wR_var, wR_c, wR_1, wR_2, wR_nilA, wR_consA, wR_ite, wR_tup, wR_lst, wR_cellL, wR_asB, wR_test, wR_andT, wR_orT, wR_notT, onB_bl, wR_andV, wR_orV, wR_notV, wR_if, wR_call, wR_chain, wR_slice, wR_noPart, wR_part, wR_okO, wS_next, wS_fNext, wS_seq, wS_ret, wS_retN, wS_expr, wS_asg, wO_set, wO_some, wO_nils, wO_conss, wO_tup, wS_if, wS_for, wS_store, wS_par, on1_e, on2_e, onI_e, wR_range1, wR_range2, onSeq_some, wR_seqI, wR_zip, wR_enum, wR_lc, wR_yes, wR_sub, wR_add, wR_mul, wR_mod, wR_div, wR_pow, wR_neg, wR_lt, wR_le, wR_gt, wR_ge, wR_abs, wR_intC, wR_eqI, wR_eqS, wR_eqB, wR_isN, wR_lenL, wR_lenT, wR_listL, wR_listT, wR_tupL, wR_tupT, onO_some, wR_ixL, wR_ixT, sl_tup, sl_lst, sl_scr, isi_non, sub_non_int, sub_non_bool, sub_non_str, sub_non_tuple, sub_non_list, sub_non_dict, isi_bl, sub_bl_int, sub_bl_bool, sub_bl_str, sub_bl_tuple, sub_bl_list, sub_bl_dict, isi_int, sub_int_int, sub_int_bool, sub_int_str, sub_int_tuple, sub_int_list, sub_int_dict, isi_str, sub_str_int, sub_str_bool, sub_str_str, sub_str_tuple, sub_str_list, sub_str_dict, isi_tup, sub_tup_int, sub_tup_bool, sub_tup_str, sub_tup_tuple, sub_tup_list, sub_tup_dict, isi_lst, sub_lst_int, sub_lst_bool, sub_lst_str, sub_lst_tuple, sub_lst_list, sub_lst_dict, isi_dct, sub_dct_int, sub_dct_bool, sub_dct_str, sub_dct_tuple, sub_dct_list, sub_dct_dict, List.any_cons, List.any_nil, Bool.or_false, Bool.or_true, Bool.false_or, Bool.true_or, wR_addT, wR_addL, wO_star1, wR_inK, wR_inKI, wR_ixK, wR_ixKI, lookK_hit, lookK_nil, Option.isSome_some, Option.isSome_none, seqF_tup, seqF_lst, seqF_scr, sz0, sz1, sz2, sz3, sz4, sz5, sz6, sz7, sz8, sz9, sz10, sz11, sz12, sz13, sz14, sz15, sz16, startE, isN, List.length_cons, List.length_nil, List.map_cons, List.map_nil, List.cons_append, List.nil_append, List.getElem?_cons_zero, List.getElem?_cons_succ, List.set_cons_zero, List.set_cons_succ, List.reduceReplicate, Nat.reduceAdd, Nat.reduceSub, Nat.zero_add, Option.map_some, decide_eq_true_eq, Bool.false_eq_true, Bool.not_true, Bool.not_false, if_false, if_true, true_and, and_true, eq_wR (needt h1 r1 hp.k1 hp.k2 _ _), eq_wR (needt h2 r2 hp.g1 hp.g2 _ _), wR_lenQ q2, wR_lenQ q1, List.length_map, eq_wR (needs h3 g2 hp.s1 hp.s2 _)]
    rw [eq_wR (hd _ _ _ _ _ _ rfl rfl rfl rfl)]
    simp only [wR_ok, wR_stuck, wR_exc, wR_bind, wR_var, wR_c, wR_1, wR_2, wR_nilA, wR_consA, wR_ite, wR_tup, wR_lst, wR_cellL, wR_asB, wR_test, wR_andT, wR_orT, wR_notT, onB_bl, wR_andV, wR_orV, wR_notV, wR_if, wR_call, wR_chain, wR_slice, wR_noPart, wR_part, wR_okO, wS_next, wS_fNext, wS_seq, wS_ret, wS_retN, wS_expr, wS_asg, wO_set, wO_some, wO_nils, wO_conss, wO_tup, wS_if, wS_for, wS_store, wS_par, on1_e, on2_e, onI_e, wR_range1, wR_range2, onSeq_some, wR_seqI, wR_zip, wR_enum, wR_lc, wR_yes, wR_sub, wR_add, wR_mul, wR_mod, wR_div, wR_pow, wR_neg, wR_lt, wR_le, wR_gt, wR_ge, wR_abs, wR_intC, wR_eqI, wR_eqS, wR_eqB, wR_isN, wR_lenL, wR_lenT, wR_listL, wR_listT, wR_tupL, wR_tupT, onO_some, wR_ixL, wR_ixT, sl_tup, sl_lst, sl_scr, isi_non, sub_non_int, sub_non_bool, sub_non_str, sub_non_tuple, sub_non_list, sub_non_dict, isi_bl, sub_bl_int, sub_bl_bool, sub_bl_str, sub_bl_tuple, sub_bl_list, sub_bl_dict, isi_int, sub_int_int, sub_int_bool, sub_int_str, sub_int_tuple, sub_int_list, sub_int_dict, isi_str, sub_str_int, sub_str_bool, sub_str_str, sub_str_tuple, sub_str_list, sub_str_dict, isi_tup, sub_tup_int, sub_tup_bool, sub_tup_str, sub_tup_tuple, sub_tup_list, sub_tup_dict, isi_lst, sub_lst_int, sub_lst_bool, sub_lst_str, sub_lst_tuple, sub_lst_list, sub_lst_dict, isi_dct, sub_dct_int, sub_dct_bool, sub_dct_str, sub_dct_tuple, sub_dct_list, sub_dct_dict, List.any_cons, List.any_nil, Bool.or_false, Bool.or_true, Bool.false_or, Bool.true_or, wR_addT, wR_addL, wO_star1, wR_inK, wR_inKI, wR_ixK, wR_ixKI, lookK_hit, lookK_nil, Option.isSome_some, Option.isSome_none, seqF_tup, seqF_lst, seqF_scr, sz0, sz1, sz2, sz3, sz4, sz5, sz6, sz7, sz8, sz9, sz10, sz11, sz12, sz13, sz14, sz15, sz16, startE, isN, List.length_cons, List.length_nil, List.map_cons, List.map_nil, List.cons_append, List.nil_append, List.getElem?_cons_zero, List.getElem?_cons_succ, List.set_cons_zero, List.set_cons_succ, List.reduceReplicate, Nat.reduceAdd, Nat.reduceSub, Nat.zero_add, Option.map_some, decide_eq_true_eq, Bool.false_eq_true, Bool.not_true, Bool.not_false, if_false, if_true, true_and, and_true, K_KINDS, wS_loop_cons, wS_loop_nil, lk1, lk2, lk3, lk4, wR_lenQ q1, wR_lenQ q2, List.length_map, eq_wR (arew _ _ _ _ h4 _), eq_wR (arew _ _ _ _ h5 _), eq_wR (arew _ _ _ _ h6 _), eq_wR (arew _ _ _ _ h7 _), hp.w1, hp.w2, hp.w3, hp.w4]
    have cm : ∀ (ρ : List D → D) (hρ : Sqn ρ) (t : List (List Int)) (env : Env) (g : G), env.length = 11 → compF (gSet 10) fYes (fCall dTupC (fConsA (fVar 10) fNilA)) env (t.map (rowD ρ)) g = .ok (t.map (rowD .tup)) g := fun ρ hρ t env g he => by
      refine compF_map (rowD ρ) (rowD .tup) t fun x hx => ⟨_, gSet_at (by omega), rfl, wR_eq ?_⟩
      have hx : Sq (rowD ρ x) (x.map D.int) := hρ.h _
      simp only [wR_ok, wR_stuck, wR_exc, wR_bind, wR_var, wR_c, wR_1, wR_2, wR_nilA, wR_consA, wR_ite, wR_tup, wR_lst, wR_cellL, wR_asB, wR_test, wR_andT, wR_orT, wR_notT, onB_bl, wR_andV, wR_orV, wR_notV, wR_if, wR_call, wR_chain, wR_slice, wR_noPart, wR_part, wR_okO, wS_next, wS_fNext, wS_seq, wS_ret, wS_retN, wS_expr, wS_asg, wO_set, wO_some, wO_nils, wO_conss, wO_tup, wS_if, wS_for, wS_store, wS_par, on1_e, on2_e, onI_e, wR_range1, wR_range2, onSeq_some, wR_seqI, wR_zip, wR_enum, wR_lc, wR_yes, wR_sub, wR_add, wR_mul, wR_mod, wR_div, wR_pow, wR_neg, wR_lt, wR_le, wR_gt, wR_ge, wR_abs, wR_intC, wR_eqI, wR_eqS, wR_eqB, wR_isN, wR_lenL, wR_lenT, wR_listL, wR_listT, wR_tupL, wR_tupT, onO_some, wR_ixL, wR_ixT, sl_tup, sl_lst, sl_scr, isi_non, sub_non_int, sub_non_bool, sub_non_str, sub_non_tuple, sub_non_list, sub_non_dict, isi_bl, sub_bl_int, sub_bl_bool, sub_bl_str, sub_bl_tuple, sub_bl_list, sub_bl_dict, isi_int, sub_int_int, sub_int_bool, sub_int_str, sub_int_tuple, sub_int_list, sub_int_dict, isi_str, sub_str_int, sub_str_bool, sub_str_str, sub_str_tuple, sub_str_list, sub_str_dict, isi_tup, sub_tup_int, sub_tup_bool, sub_tup_str, sub_tup_tuple, sub_tup_list, sub_tup_dict, isi_lst, sub_lst_int, sub_lst_bool, sub_lst_str, sub_lst_tuple, sub_lst_list, sub_lst_dict, isi_dct, sub_dct_int, sub_dct_bool, sub_dct_str, sub_dct_tuple, sub_dct_list, sub_dct_dict, List.any_cons, List.any_nil, Bool.or_false, Bool.or_true, Bool.false_or, Bool.true_or, wR_addT, wR_addL, wO_star1, wR_inK, wR_inKI, wR_ixK, wR_ixKI, lookK_hit, lookK_nil, Option.isSome_some, Option.isSome_none, seqF_tup, seqF_lst, seqF_scr, sz0, sz1, sz2, sz3, sz4, sz5, sz6, sz7, sz8, sz9, sz10, sz11, sz12, sz13, sz14, sz15, sz16, startE, isN, List.length_cons, List.length_nil, List.map_cons, List.map_nil, List.cons_append, List.nil_append, List.getElem?_cons_zero, List.getElem?_cons_succ, List.set_cons_zero, List.set_cons_succ, List.reduceReplicate, Nat.reduceAdd, Nat.reduceSub, Nat.zero_add, Option.map_some, decide_eq_true_eq, Bool.false_eq_true, Bool.not_true, Bool.not_false, if_false, if_true, true_and, and_true, List.getElem?_set_self (show 10 < env.length by omega), wR_tupQ hx]
      rfl
    have dk : ∀ (env : Env) (g : G), env.length = 11 → env[8]? = some (.val (.dct [(.inr "get", prsD o4 p.get), (.inr "walk", prsD o5 p.walk), (.inr "put", prsD o6 p.put), (.inr "strike", prsD o7 p.strike)])) → turnsK (gSet 9) fYes (putF2 (fVar 9) (fCall dTupC (fConsA (f2 dIx (fVar 8) (fVar 9)) fNilA))) (wipeE env [9]) [.str "get", .str "walk", .str "put", .str "strike"] g [] = .ok [(.inr "get", prsD .tup p.get), (.inr "walk", prsD .tup p.walk), (.inr "put", prsD .tup p.put), (.inr "strike", prsD .tup p.strike)] g := fun env g hl he => by
      have e8 : ∀ x : Sl, ((wipeE env [9]).set 9 x)[8]? = env[8]? := fun x => by
        simp only [wipeE]
        rw [List.getElem?_set_ne (by decide), List.getElem?_set_ne (by decide)]
      have e9 : ∀ x : Sl, ((wipeE env [9]).set 9 x)[9]? = some x := fun x => by
        simp only [wipeE]
        rw [List.getElem?_set_self (by rw [List.length_set]; omega)]
      have w1 : ∀ (s : Str) (o : List D → D) (ps : List Pr), Sqn o → lookK [((.inr "get" : Key), prsD o4 p.get), (.inr "walk", prsD o5 p.walk), (.inr "put", prsD o6 p.put), (.inr "strike", prsD o7 p.strike)] (.inr s) = some (prsD o ps) → fCall dTupC (fConsA (f2 dIx (fVar 8) (fVar 9)) fNilA) ((wipeE env [9]).set 9 (.val (.str s))) g = .ok (prsD .tup ps) g := fun s o ps ho hs => by
        refine wR_eq ?_
        have hx : Sq (prsD o ps) (ps.map pairD) := ho.h _
        simp only [wR_ok, wR_stuck, wR_exc, wR_bind, wR_var, wR_c, wR_1, wR_2, wR_nilA, wR_consA, wR_ite, wR_tup, wR_lst, wR_cellL, wR_asB, wR_test, wR_andT, wR_orT, wR_notT, onB_bl, wR_andV, wR_orV, wR_notV, wR_if, wR_call, wR_chain, wR_slice, wR_noPart, wR_part, wR_okO, wS_next, wS_fNext, wS_seq, wS_ret, wS_retN, wS_expr, wS_asg, wO_set, wO_some, wO_nils, wO_conss, wO_tup, wS_if, wS_for, wS_store, wS_par, on1_e, on2_e, onI_e, wR_range1, wR_range2, onSeq_some, wR_seqI, wR_zip, wR_enum, wR_lc, wR_yes, wR_sub, wR_add, wR_mul, wR_mod, wR_div, wR_pow, wR_neg, wR_lt, wR_le, wR_gt, wR_ge, wR_abs, wR_intC, wR_eqI, wR_eqS, wR_eqB, wR_isN, wR_lenL, wR_lenT, wR_listL, wR_listT, wR_tupL, wR_tupT, onO_some, wR_ixL, wR_ixT, sl_tup, sl_lst, sl_scr, isi_non, sub_non_int, sub_non_bool, sub_non_str, sub_non_tuple, sub_non_list, sub_non_dict, isi_bl, sub_bl_int, sub_bl_bool, sub_bl_str, sub_bl_tuple, sub_bl_list, sub_bl_dict, isi_int, sub_int_int, sub_int_bool, sub_int_str, sub_int_tuple, sub_int_list, sub_int_dict, isi_str, sub_str_int, sub_str_bool, sub_str_str, sub_str_tuple, sub_str_list, sub_str_dict, isi_tup, sub_tup_int, sub_tup_bool, sub_tup_str, sub_tup_tuple, sub_tup_list, sub_tup_dict, isi_lst, sub_lst_int, sub_lst_bool, sub_lst_str, sub_lst_tuple, sub_lst_list, sub_lst_dict, isi_dct, sub_dct_int, sub_dct_bool, sub_dct_str, sub_dct_tuple, sub_dct_list, sub_dct_dict, List.any_cons, List.any_nil, Bool.or_false, Bool.or_true, Bool.false_or, Bool.true_or, wR_addT, wR_addL, wO_star1, wR_inK, wR_inKI, wR_ixK, wR_ixKI, lookK_hit, lookK_nil, Option.isSome_some, Option.isSome_none, seqF_tup, seqF_lst, seqF_scr, sz0, sz1, sz2, sz3, sz4, sz5, sz6, sz7, sz8, sz9, sz10, sz11, sz12, sz13, sz14, sz15, sz16, startE, isN, List.length_cons, List.length_nil, List.map_cons, List.map_nil, List.cons_append, List.nil_append, List.getElem?_cons_zero, List.getElem?_cons_succ, List.set_cons_zero, List.set_cons_succ, List.reduceReplicate, Nat.reduceAdd, Nat.reduceSub, Nat.zero_add, Option.map_some, decide_eq_true_eq, Bool.false_eq_true, Bool.not_true, Bool.not_false, if_false, if_true, true_and, and_true, e8, e9, he, hs, wR_tupQ hx]
        rfl
      have v9 : ∀ d : D, fVar 9 ((wipeE env [9]).set 9 (.val d)) g = .ok d g := fun d => by unfold fVar; rw [e9]
      have s9 : ∀ d : D, gSet 9 d g (wipeE env [9]) = some ((wipeE env [9]).set 9 (.val d)) := fun d => gSet_at (by simp only [wipeE]; rw [List.length_set]; omega)
      have kk : ∀ s : Str, keyD (.str s) = some (.inr s) := fun _ => rfl
      have z1 : setK ([] : List (Key × D)) (.inr "get") (prsD .tup p.get) = [(.inr "get", prsD .tup p.get)] := rfl
      have z2 : setK [((.inr "get" : Key), prsD .tup p.get)] (.inr "walk") (prsD .tup p.walk) = [(.inr "get", prsD .tup p.get), (.inr "walk", prsD .tup p.walk)] := rfl
      have z3 : setK [((.inr "get" : Key), prsD .tup p.get), (.inr "walk", prsD .tup p.walk)] (.inr "put") (prsD .tup p.put) = [(.inr "get", prsD .tup p.get), (.inr "walk", prsD .tup p.walk), (.inr "put", prsD .tup p.put)] := rfl
      have z4 : setK [((.inr "get" : Key), prsD .tup p.get), (.inr "walk", prsD .tup p.walk), (.inr "put", prsD .tup p.put)] (.inr "strike") (prsD .tup p.strike) = [(.inr "get", prsD .tup p.get), (.inr "walk", prsD .tup p.walk), (.inr "put", prsD .tup p.put), (.inr "strike", prsD .tup p.strike)] := rfl
      have lt : ∀ n : Nat, n ≤ 4 → n < sizeLine := fun n hn => Nat.lt_of_le_of_lt hn (by decide)
      simp only [turnsK, s9, fYes, putF2, v9, w1 "get" o4 p.get h4 rfl, w1 "walk" o5 p.walk h5 rfl, w1 "put" o6 p.put h6 rfl, w1 "strike" o7 p.strike h7 rfl, kk, List.length_nil, List.length_cons, lt 0 (by decide), lt (0 + 1) (by decide), lt (0 + 1 + 1) (by decide), lt (0 + 1 + 1 + 1) (by decide), if_true, z1, z2, z3, z4]
    have nn := numbers_ok p hp (.ref g.length) (g ++ [.ins "LockBook" p.fs4]) [] (by rw [List.append_nil]; exact insD_ref get_last)
    have tl := hp.tabs_len
    have wl := hp.wants_len
    have nl : p.nums.length ≤ 100 := by unfold Pt.nums; rw [List.length_append]; omega
    have st : ∀ (f : Str) (fs : List (Str × D)) (d : D), fs.length < 1000 → setF ["LockBook"] f (g ++ [.ins "LockBook" fs]) (.ref g.length) d = some (g ++ [.ins "LockBook" (putD f d fs)]) := fun f fs d hl => by
      rw [setF_at get_last (by simp) hl, set_last]
    simp only [wS_setF, wR_ok, wR_stuck, wR_exc, wR_bind, wR_var, wR_c, wR_1, wR_2, wR_nilA, wR_consA, wR_ite, wR_tup, wR_lst, wR_cellL, wR_asB, wR_test, wR_andT, wR_orT, wR_notT, onB_bl, wR_andV, wR_orV, wR_notV, wR_if, wR_call, wR_chain, wR_slice, wR_noPart, wR_part, wR_okO, wS_next, wS_fNext, wS_seq, wS_ret, wS_retN, wS_expr, wS_asg, wO_set, wO_some, wO_nils, wO_conss, wO_tup, wS_if, wS_for, wS_store, wS_par, on1_e, on2_e, onI_e, wR_range1, wR_range2, onSeq_some, wR_seqI, wR_zip, wR_enum, wR_lc, wR_yes, wR_sub, wR_add, wR_mul, wR_mod, wR_div, wR_pow, wR_neg, wR_lt, wR_le, wR_gt, wR_ge, wR_abs, wR_intC, wR_eqI, wR_eqS, wR_eqB, wR_isN, wR_lenL, wR_lenT, wR_listL, wR_listT, wR_tupL, wR_tupT, onO_some, wR_ixL, wR_ixT, sl_tup, sl_lst, sl_scr, isi_non, sub_non_int, sub_non_bool, sub_non_str, sub_non_tuple, sub_non_list, sub_non_dict, isi_bl, sub_bl_int, sub_bl_bool, sub_bl_str, sub_bl_tuple, sub_bl_list, sub_bl_dict, isi_int, sub_int_int, sub_int_bool, sub_int_str, sub_int_tuple, sub_int_list, sub_int_dict, isi_str, sub_str_int, sub_str_bool, sub_str_str, sub_str_tuple, sub_str_list, sub_str_dict, isi_tup, sub_tup_int, sub_tup_bool, sub_tup_str, sub_tup_tuple, sub_tup_list, sub_tup_dict, isi_lst, sub_lst_int, sub_lst_bool, sub_lst_str, sub_lst_tuple, sub_lst_list, sub_lst_dict, isi_dct, sub_dct_int, sub_dct_bool, sub_dct_str, sub_dct_tuple, sub_dct_list, sub_dct_dict, List.any_cons, List.any_nil, Bool.or_false, Bool.or_true, Bool.false_or, Bool.true_or, wR_addT, wR_addL, wO_star1, wR_inK, wR_inKI, wR_ixK, wR_ixKI, lookK_hit, lookK_nil, Option.isSome_some, Option.isSome_none, seqF_tup, seqF_lst, seqF_scr, sz0, sz1, sz2, sz3, sz4, sz5, sz6, sz7, sz8, sz9, sz10, sz11, sz12, sz13, sz14, sz15, sz16, startE, isN, List.length_cons, List.length_nil, List.map_cons, List.map_nil, List.cons_append, List.nil_append, List.getElem?_cons_zero, List.getElem?_cons_succ, List.set_cons_zero, List.set_cons_succ, List.reduceReplicate, Nat.reduceAdd, Nat.reduceSub, Nat.zero_add, Option.map_some, decide_eq_true_eq, Bool.false_eq_true, Bool.not_true, Bool.not_false, if_false, if_true, true_and, and_true, q1.seq, q2.seq, q3.seq, List.length_map, wR_tupQ q3, wR_dc]
    refine ⟨by omega, ?_⟩
    rw [eq_wR (cm _ r1 _ _ _ rfl)]
    rw [st _ _ _ (by decide)]
    simp only [wR_ok, wR_stuck, wR_exc, wR_bind, wR_var, wR_c, wR_1, wR_2, wR_nilA, wR_consA, wR_ite, wR_tup, wR_lst, wR_cellL, wR_asB, wR_test, wR_andT, wR_orT, wR_notT, onB_bl, wR_andV, wR_orV, wR_notV, wR_if, wR_call, wR_chain, wR_slice, wR_noPart, wR_part, wR_okO, wS_next, wS_fNext, wS_seq, wS_ret, wS_retN, wS_expr, wS_asg, wO_set, wO_some, wO_nils, wO_conss, wO_tup, wS_if, wS_for, wS_store, wS_par, on1_e, on2_e, onI_e, wR_range1, wR_range2, onSeq_some, wR_seqI, wR_zip, wR_enum, wR_lc, wR_yes, wR_sub, wR_add, wR_mul, wR_mod, wR_div, wR_pow, wR_neg, wR_lt, wR_le, wR_gt, wR_ge, wR_abs, wR_intC, wR_eqI, wR_eqS, wR_eqB, wR_isN, wR_lenL, wR_lenT, wR_listL, wR_listT, wR_tupL, wR_tupT, onO_some, wR_ixL, wR_ixT, sl_tup, sl_lst, sl_scr, isi_non, sub_non_int, sub_non_bool, sub_non_str, sub_non_tuple, sub_non_list, sub_non_dict, isi_bl, sub_bl_int, sub_bl_bool, sub_bl_str, sub_bl_tuple, sub_bl_list, sub_bl_dict, isi_int, sub_int_int, sub_int_bool, sub_int_str, sub_int_tuple, sub_int_list, sub_int_dict, isi_str, sub_str_int, sub_str_bool, sub_str_str, sub_str_tuple, sub_str_list, sub_str_dict, isi_tup, sub_tup_int, sub_tup_bool, sub_tup_str, sub_tup_tuple, sub_tup_list, sub_tup_dict, isi_lst, sub_lst_int, sub_lst_bool, sub_lst_str, sub_lst_tuple, sub_lst_list, sub_lst_dict, isi_dct, sub_dct_int, sub_dct_bool, sub_dct_str, sub_dct_tuple, sub_dct_list, sub_dct_dict, List.any_cons, List.any_nil, Bool.or_false, Bool.or_true, Bool.false_or, Bool.true_or, wR_addT, wR_addL, wO_star1, wR_inK, wR_inKI, wR_ixK, wR_ixKI, lookK_hit, lookK_nil, Option.isSome_some, Option.isSome_none, seqF_tup, seqF_lst, seqF_scr, sz0, sz1, sz2, sz3, sz4, sz5, sz6, sz7, sz8, sz9, sz10, sz11, sz12, sz13, sz14, sz15, sz16, startE, isN, List.length_cons, List.length_nil, List.map_cons, List.map_nil, List.cons_append, List.nil_append, List.getElem?_cons_zero, List.getElem?_cons_succ, List.set_cons_zero, List.set_cons_succ, List.reduceReplicate, Nat.reduceAdd, Nat.reduceSub, Nat.zero_add, Option.map_some, decide_eq_true_eq, Bool.false_eq_true, Bool.not_true, Bool.not_false, if_false, if_true, true_and, and_true, q2.seq, List.length_map]
    refine ⟨by omega, ?_⟩
    rw [eq_wR (cm _ r2 _ _ _ rfl)]
    rw [st _ _ _ (by simp (decide := true) [putD])]
    simp only [wR_ok, wR_stuck, wR_exc, wR_bind, wR_var, wR_c, wR_1, wR_2, wR_nilA, wR_consA, wR_ite, wR_tup, wR_lst, wR_cellL, wR_asB, wR_test, wR_andT, wR_orT, wR_notT, onB_bl, wR_andV, wR_orV, wR_notV, wR_if, wR_call, wR_chain, wR_slice, wR_noPart, wR_part, wR_okO, wS_next, wS_fNext, wS_seq, wS_ret, wS_retN, wS_expr, wS_asg, wO_set, wO_some, wO_nils, wO_conss, wO_tup, wS_if, wS_for, wS_store, wS_par, on1_e, on2_e, onI_e, wR_range1, wR_range2, onSeq_some, wR_seqI, wR_zip, wR_enum, wR_lc, wR_yes, wR_sub, wR_add, wR_mul, wR_mod, wR_div, wR_pow, wR_neg, wR_lt, wR_le, wR_gt, wR_ge, wR_abs, wR_intC, wR_eqI, wR_eqS, wR_eqB, wR_isN, wR_lenL, wR_lenT, wR_listL, wR_listT, wR_tupL, wR_tupT, onO_some, wR_ixL, wR_ixT, sl_tup, sl_lst, sl_scr, isi_non, sub_non_int, sub_non_bool, sub_non_str, sub_non_tuple, sub_non_list, sub_non_dict, isi_bl, sub_bl_int, sub_bl_bool, sub_bl_str, sub_bl_tuple, sub_bl_list, sub_bl_dict, isi_int, sub_int_int, sub_int_bool, sub_int_str, sub_int_tuple, sub_int_list, sub_int_dict, isi_str, sub_str_int, sub_str_bool, sub_str_str, sub_str_tuple, sub_str_list, sub_str_dict, isi_tup, sub_tup_int, sub_tup_bool, sub_tup_str, sub_tup_tuple, sub_tup_list, sub_tup_dict, isi_lst, sub_lst_int, sub_lst_bool, sub_lst_str, sub_lst_tuple, sub_lst_list, sub_lst_dict, isi_dct, sub_dct_int, sub_dct_bool, sub_dct_str, sub_dct_tuple, sub_dct_list, sub_dct_dict, List.any_cons, List.any_nil, Bool.or_false, Bool.or_true, Bool.false_or, Bool.true_or, wR_addT, wR_addL, wO_star1, wR_inK, wR_inKI, wR_ixK, wR_ixKI, lookK_hit, lookK_nil, Option.isSome_some, Option.isSome_none, seqF_tup, seqF_lst, seqF_scr, sz0, sz1, sz2, sz3, sz4, sz5, sz6, sz7, sz8, sz9, sz10, sz11, sz12, sz13, sz14, sz15, sz16, startE, isN, List.length_cons, List.length_nil, List.map_cons, List.map_nil, List.cons_append, List.nil_append, List.getElem?_cons_zero, List.getElem?_cons_succ, List.set_cons_zero, List.set_cons_succ, List.reduceReplicate, Nat.reduceAdd, Nat.reduceSub, Nat.zero_add, Option.map_some, decide_eq_true_eq, Bool.false_eq_true, Bool.not_true, Bool.not_false, if_false, if_true, true_and, and_true, wR_tupQ q3]
    rw [st _ _ _ (by simp (decide := true) [putD])]
    simp only [wR_ok, wR_stuck, wR_exc, wR_bind, wR_var, wR_c, wR_1, wR_2, wR_nilA, wR_consA, wR_ite, wR_tup, wR_lst, wR_cellL, wR_asB, wR_test, wR_andT, wR_orT, wR_notT, onB_bl, wR_andV, wR_orV, wR_notV, wR_if, wR_call, wR_chain, wR_slice, wR_noPart, wR_part, wR_okO, wS_next, wS_fNext, wS_seq, wS_ret, wS_retN, wS_expr, wS_asg, wO_set, wO_some, wO_nils, wO_conss, wO_tup, wS_if, wS_for, wS_store, wS_par, on1_e, on2_e, onI_e, wR_range1, wR_range2, onSeq_some, wR_seqI, wR_zip, wR_enum, wR_lc, wR_yes, wR_sub, wR_add, wR_mul, wR_mod, wR_div, wR_pow, wR_neg, wR_lt, wR_le, wR_gt, wR_ge, wR_abs, wR_intC, wR_eqI, wR_eqS, wR_eqB, wR_isN, wR_lenL, wR_lenT, wR_listL, wR_listT, wR_tupL, wR_tupT, onO_some, wR_ixL, wR_ixT, sl_tup, sl_lst, sl_scr, isi_non, sub_non_int, sub_non_bool, sub_non_str, sub_non_tuple, sub_non_list, sub_non_dict, isi_bl, sub_bl_int, sub_bl_bool, sub_bl_str, sub_bl_tuple, sub_bl_list, sub_bl_dict, isi_int, sub_int_int, sub_int_bool, sub_int_str, sub_int_tuple, sub_int_list, sub_int_dict, isi_str, sub_str_int, sub_str_bool, sub_str_str, sub_str_tuple, sub_str_list, sub_str_dict, isi_tup, sub_tup_int, sub_tup_bool, sub_tup_str, sub_tup_tuple, sub_tup_list, sub_tup_dict, isi_lst, sub_lst_int, sub_lst_bool, sub_lst_str, sub_lst_tuple, sub_lst_list, sub_lst_dict, isi_dct, sub_dct_int, sub_dct_bool, sub_dct_str, sub_dct_tuple, sub_dct_list, sub_dct_dict, List.any_cons, List.any_nil, Bool.or_false, Bool.or_true, Bool.false_or, Bool.true_or, wR_addT, wR_addL, wO_star1, wR_inK, wR_inKI, wR_ixK, wR_ixKI, lookK_hit, lookK_nil, Option.isSome_some, Option.isSome_none, seqF_tup, seqF_lst, seqF_scr, sz0, sz1, sz2, sz3, sz4, sz5, sz6, sz7, sz8, sz9, sz10, sz11, sz12, sz13, sz14, sz15, sz16, startE, isN, List.length_cons, List.length_nil, List.map_cons, List.map_nil, List.cons_append, List.nil_append, List.getElem?_cons_zero, List.getElem?_cons_succ, List.set_cons_zero, List.set_cons_succ, List.reduceReplicate, Nat.reduceAdd, Nat.reduceSub, Nat.zero_add, Option.map_some, decide_eq_true_eq, Bool.false_eq_true, Bool.not_true, Bool.not_false, if_false, if_true, true_and, and_true]
    rw [eq_wR (dk _ _ rfl rfl), st _ _ _ (by simp (decide := true) [putD])]
    simp only [wR_ok, wR_stuck, wR_exc, wR_bind, wR_var, wR_c, wR_1, wR_2, wR_nilA, wR_consA, wR_ite, wR_tup, wR_lst, wR_cellL, wR_asB, wR_test, wR_andT, wR_orT, wR_notT, onB_bl, wR_andV, wR_orV, wR_notV, wR_if, wR_call, wR_chain, wR_slice, wR_noPart, wR_part, wR_okO, wS_next, wS_fNext, wS_seq, wS_ret, wS_retN, wS_expr, wS_asg, wO_set, wO_some, wO_nils, wO_conss, wO_tup, wS_if, wS_for, wS_store, wS_par, on1_e, on2_e, onI_e, wR_range1, wR_range2, onSeq_some, wR_seqI, wR_zip, wR_enum, wR_lc, wR_yes, wR_sub, wR_add, wR_mul, wR_mod, wR_div, wR_pow, wR_neg, wR_lt, wR_le, wR_gt, wR_ge, wR_abs, wR_intC, wR_eqI, wR_eqS, wR_eqB, wR_isN, wR_lenL, wR_lenT, wR_listL, wR_listT, wR_tupL, wR_tupT, onO_some, wR_ixL, wR_ixT, sl_tup, sl_lst, sl_scr, isi_non, sub_non_int, sub_non_bool, sub_non_str, sub_non_tuple, sub_non_list, sub_non_dict, isi_bl, sub_bl_int, sub_bl_bool, sub_bl_str, sub_bl_tuple, sub_bl_list, sub_bl_dict, isi_int, sub_int_int, sub_int_bool, sub_int_str, sub_int_tuple, sub_int_list, sub_int_dict, isi_str, sub_str_int, sub_str_bool, sub_str_str, sub_str_tuple, sub_str_list, sub_str_dict, isi_tup, sub_tup_int, sub_tup_bool, sub_tup_str, sub_tup_tuple, sub_tup_list, sub_tup_dict, isi_lst, sub_lst_int, sub_lst_bool, sub_lst_str, sub_lst_tuple, sub_lst_list, sub_lst_dict, isi_dct, sub_dct_int, sub_dct_bool, sub_dct_str, sub_dct_tuple, sub_dct_list, sub_dct_dict, List.any_cons, List.any_nil, Bool.or_false, Bool.or_true, Bool.false_or, Bool.true_or, wR_addT, wR_addL, wO_star1, wR_inK, wR_inKI, wR_ixK, wR_ixKI, lookK_hit, lookK_nil, Option.isSome_some, Option.isSome_none, seqF_tup, seqF_lst, seqF_scr, sz0, sz1, sz2, sz3, sz4, sz5, sz6, sz7, sz8, sz9, sz10, sz11, sz12, sz13, sz14, sz15, sz16, startE, isN, List.length_cons, List.length_nil, List.map_cons, List.map_nil, List.cons_append, List.nil_append, List.getElem?_cons_zero, List.getElem?_cons_succ, List.set_cons_zero, List.set_cons_succ, List.reduceReplicate, Nat.reduceAdd, Nat.reduceSub, Nat.zero_add, Option.map_some, decide_eq_true_eq, Bool.false_eq_true, Bool.not_true, Bool.not_false, if_false, if_true, true_and, and_true, wR_lenQ q1, wR_lenQ q2, wR_starA, wR_meth, wR_dDf, List.length_map]
    have e4 : putD "own_wants" (.dct [(.inr "get", prsD .tup p.get), (.inr "walk", prsD .tup p.walk), (.inr "put", prsD .tup p.put), (.inr "strike", prsD .tup p.strike)]) (putD "own_splits" (.tup (p.splits.map pairD)) (putD "own_gaps" (.tup (p.gaps.map (rowD .tup))) (putD "own_keys" (.tup (p.keys.map (rowD .tup))) []))) = p.fs4 := rfl
    rw [e4, insD_ref get_last, onIns_some]
    refine ⟨⟨by trivial, rfl⟩, ?_⟩
    rw [eq_wR nn, seqD_lst, onO_some]
    refine ⟨by simp only [List.append_nil, List.length_map]; omega, ?_⟩
    rw [st _ p.fs4 _ (show (4 : Nat) < 1000 by decide)]
    simp only [List.append_nil]
    rfl
  exact wr
theorem made_ok (p : Pt) (hp : p.Ok) (g : G) : F__law_made [p.partsD] g = .ok p.bookD (g ++ [.dead]) := by
  refine wR_eq ?_
  unfold F__law_made b__law_made Pt.partsD
  have i0 : ∀ a b c d e f h : D, atI [a, b, c, d, e, f, h] 0 = some a := fun _ _ _ _ _ _ _ => rfl
  have i1 : ∀ a b c d e f h : D, atI [a, b, c, d, e, f, h] 1 = some b := fun _ _ _ _ _ _ _ => rfl
  have i2 : ∀ a b c d e f h : D, atI [a, b, c, d, e, f, h] 2 = some c := fun _ _ _ _ _ _ _ => rfl
  have i3 : ∀ a b c d e f h : D, atI [a, b, c, d, e, f, h] 3 = some d := fun _ _ _ _ _ _ _ => rfl
  have i4 : ∀ a b c d e f h : D, atI [a, b, c, d, e, f, h] 4 = some e := fun _ _ _ _ _ _ _ => rfl
  have i5 : ∀ a b c d e f h : D, atI [a, b, c, d, e, f, h] 5 = some f := fun _ _ _ _ _ _ _ => rfl
  have i6 : ∀ a b c d e f h : D, atI [a, b, c, d, e, f, h] 6 = some h := fun _ _ _ _ _ _ _ => rfl
  simp only [wR_body, wR_ok, wR_stuck, wR_exc, wR_bind, wR_var, wR_c, wR_1, wR_2, wR_nilA, wR_consA, wR_ite, wR_tup, wR_lst, wR_cellL, wR_asB, wR_test, wR_andT, wR_orT, wR_notT, onB_bl, wR_andV, wR_orV, wR_notV, wR_if, wR_call, wR_chain, wR_slice, wR_noPart, wR_part, wR_okO, wS_next, wS_fNext, wS_seq, wS_ret, wS_retN, wS_expr, wS_asg, wO_set, wO_some, wO_nils, wO_conss, wO_tup, wS_if, wS_for, wS_store, wS_par, on1_e, on2_e, onI_e, wR_range1, wR_range2, onSeq_some, wR_seqI, wR_zip, wR_enum, wR_lc, wR_yes, wR_sub, wR_add, wR_mul, wR_mod, wR_div, wR_pow, wR_neg, wR_lt, wR_le, wR_gt, wR_ge, wR_abs, wR_intC, wR_eqI, wR_eqS, wR_eqB, wR_isN, wR_lenL, wR_lenT, wR_listL, wR_listT, wR_tupL, wR_tupT, onO_some, wR_ixL, wR_ixT, sl_tup, sl_lst, sl_scr, isi_non, sub_non_int, sub_non_bool, sub_non_str, sub_non_tuple, sub_non_list, sub_non_dict, isi_bl, sub_bl_int, sub_bl_bool, sub_bl_str, sub_bl_tuple, sub_bl_list, sub_bl_dict, isi_int, sub_int_int, sub_int_bool, sub_int_str, sub_int_tuple, sub_int_list, sub_int_dict, isi_str, sub_str_int, sub_str_bool, sub_str_str, sub_str_tuple, sub_str_list, sub_str_dict, isi_tup, sub_tup_int, sub_tup_bool, sub_tup_str, sub_tup_tuple, sub_tup_list, sub_tup_dict, isi_lst, sub_lst_int, sub_lst_bool, sub_lst_str, sub_lst_tuple, sub_lst_list, sub_lst_dict, isi_dct, sub_dct_int, sub_dct_bool, sub_dct_str, sub_dct_tuple, sub_dct_list, sub_dct_dict, List.any_cons, List.any_nil, Bool.or_false, Bool.or_true, Bool.false_or, Bool.true_or, wR_addT, wR_addL, wO_star1, wR_inK, wR_inKI, wR_ixK, wR_ixKI, lookK_hit, lookK_nil, Option.isSome_some, Option.isSome_none, seqF_tup, seqF_lst, seqF_scr, sz0, sz1, sz2, sz3, sz4, sz5, sz6, sz7, sz8, sz9, sz10, sz11, sz12, sz13, sz14, sz15, sz16, startE, isN, List.length_cons, List.length_nil, List.map_cons, List.map_nil, List.cons_append, List.nil_append, List.getElem?_cons_zero, List.getElem?_cons_succ, List.set_cons_zero, List.set_cons_succ, List.reduceReplicate, Nat.reduceAdd, Nat.reduceSub, Nat.zero_add, Option.map_some, decide_eq_true_eq, Bool.false_eq_true, Bool.not_true, Bool.not_false, if_false, if_true, true_and, and_true, wR_makeK, wR_mkIns, i0, i1, i2, i3, i4, i5, i6, eq_wR (init_ok p hp sqn_l sqn_l sqn_l sqn_l sqn_l sqn_l sqn_l sqn_l sqn_l g)]
  rw [wR_frzI get_last, set_last]
  exact ⟨rfl, rfl⟩
end FL

/-! PB3: drawn parts are right -/
namespace FL
open PySem PySem.Spec PyProof.Rows L2 FR
/-! ### tables -/
def rowGood (n : Nat) (up r : List Int) : Prop := ∀ j x, r[j]? = some x → (0 ≤ x ∧ x < 2) ∧ ((n = 0 ∨ j = 0) → x = 0) ∧ (0 < n → up.getD j 0 ≤ x) ∧ (0 < j → r.getD (j - 1) 0 ≤ x)
theorem rowGood.snoc {n : Nat} {up r : List Int} {x : Int} (h : rowGood n up r) (h1 : 0 ≤ x ∧ x < 2) (h2 : (n = 0 ∨ r.length = 0) → x = 0) (h3 : 0 < n → up.getD r.length 0 ≤ x) (h4 : 0 < r.length → r.getD (r.length - 1) 0 ≤ x) : rowGood n up (r ++ [x]) := fun j y hy => by
  by_cases hj : j < r.length
  · rw [List.getElem?_append_left hj] at hy
    obtain ⟨a, b, c, d⟩ := h j y hy
    refine ⟨a, b, c, fun h0 => ?_⟩
    have := d h0
    rw [List.getD_eq_getElem?_getD] at this ⊢
    rw [List.getElem?_append_left (by omega)]; exact this
  · have hj' : j = r.length := by
      have := (List.getElem?_eq_some_iff.mp hy).1
      rw [List.length_append, List.length_cons, List.length_nil] at this
      omega
    subst hj'
    have : x = y := by simpa using hy
    subst this
    refine ⟨h1, h2, h3, fun h0 => ?_⟩
    have := h4 h0
    rw [List.getD_eq_getElem?_getD] at this ⊢
    rw [List.getElem?_append_left (by omega)]; exact this
def tabGood (N : Nat) (t : List (List Int)) : Prop := ∀ n r, t[n]? = some r → r.length = N ∧ rowGood n (t.getD (n - 1) []) r
theorem tabGood.snoc {N : Nat} {t : List (List Int)} {r : List Int} (h : tabGood N t) (h1 : r.length = N) (h2 : rowGood t.length (t.getD (t.length - 1) []) r) : tabGood N (t ++ [r]) := fun n q hq => by
  have gd : ∀ n, n < t.length → (t ++ [r]).getD n [] = t.getD n [] := fun n hn => by
    rw [List.getD_eq_getElem?_getD, List.getD_eq_getElem?_getD, List.getElem?_append_left hn]
  by_cases hj : n < t.length
  · rw [List.getElem?_append_left hj] at hq
    obtain ⟨a, b⟩ := h n q hq
    refine ⟨a, ?_⟩
    rw [gd _ (by omega)]; exact b
  · have hj' : n = t.length := by
      have := (List.getElem?_eq_some_iff.mp hq).1
      rw [List.length_append, List.length_cons, List.length_nil] at this
      omega
    subst hj'
    have : r = q := by simpa using hq
    subst this
    refine ⟨h1, fun j x hx => ?_⟩
    obtain ⟨a, b, c, d⟩ := h2 j x hx
    refine ⟨a, b, fun h0 => ?_, d⟩
    have := c h0
    rw [gd _ (by omega)]; exact this
theorem scanR_none {bad : Nat → Int → Bool} : ∀ (xs : List Int) (j : Nat), (∀ i x, xs[i]? = some x → bad (j + i) x = false) → scanR bad j xs = none
  | [], _, _ => rfl
  | x :: xs, j, h => by
    unfold scanR
    have h0 := h 0 x rfl
    rw [Nat.add_zero] at h0
    rw [h0, if_neg Bool.false_ne_true]
    exact scanR_none xs (j + 1) fun i y hy => by
      have := h (i + 1) y (by simpa using hy)
      rwa [show j + (i + 1) = j + 1 + i by omega] at this
theorem scanT_none {bad : Nat → List Int → Nat → Int → Bool} : ∀ (ts : List (List Int)) (n : Nat), (∀ i r, ts[i]? = some r → ∀ j x, r[j]? = some x → bad (n + i) r j x = false) → scanT bad n ts = none
  | [], _, _ => rfl
  | r :: ts, n, h => by
    unfold scanT
    rw [scanR_none r 0 fun j x hx => by
      have := h 0 r rfl j x hx
      rw [Nat.add_zero] at this
      rw [Nat.zero_add]; exact this]
    exact scanT_none ts (n + 1) fun i q hq j x hx => by
      have := h (i + 1) q (by simpa using hq) j x hx
      rwa [show n + (i + 1) = n + 1 + i by omega] at this
theorem tabGood.fall {N : Nat} {t : List (List Int)} (h : tabGood N t) : fallT t = none := scanT_none t 0 fun n r hr j x hx => by
  rw [Nat.zero_add]
  obtain ⟨_, q⟩ := h n r hr
  obtain ⟨⟨a1, a2⟩, b, c, d⟩ := q j x hx
  unfold badT
  simp only [Bool.or_eq_false_iff, Bool.and_eq_false_iff, decide_eq_false_iff_not, Bool.or_eq_true]
  refine ⟨⟨?_, ?_⟩, ?_⟩
  · by_cases hn : n = 0 ∨ j = 0
    · exact .inr (fun z => z (b hn))
    · exact .inl ⟨fun z => hn (.inl z), fun z => hn (.inr z)⟩
  · by_cases hn : 0 < n
    · exact .inr (by have := c hn; omega)
    · exact .inl hn
  · by_cases hn : 0 < j
    · exact .inr (by have := d hn; omega)
    · exact .inl hn
theorem tabGood.isTab {t : List (List Int)} (h : tabGood t.length t) (h1 : 1 ≤ t.length) (h5 : t.length ≤ 5) : isTabB t = true := by
  unfold isTabB
  simp only [Bool.and_eq_true, decide_eq_true_eq, List.all_eq_true, rowOk, belB]
  refine ⟨⟨h1, h5⟩, fun r hr => ?_⟩
  obtain ⟨n, hn⟩ := List.mem_iff_getElem?.mp hr
  obtain ⟨a, b⟩ := h n r hn
  refine ⟨a, fun x hx => ?_⟩
  obtain ⟨j, hj⟩ := List.mem_iff_getElem?.mp hx
  exact (b j x hj).1
theorem BagAt.same {g : G} {k : Nat} (hb : BagAt g k) : ∃ c, g.set k c = g ∧ BagC c :=
  match hb with
  | ⟨c0, hc0, hbc0⟩ => ⟨c0, by
    obtain ⟨hk, e⟩ := List.getElem?_eq_some_iff.mp hc0
    rw [← e]; exact List.set_getElem_self hk, hbc0⟩
noncomputable def BagAt.cell {g : G} {k : Nat} (hb : BagAt g k) : Cell := Classical.choose hb.same
theorem BagAt.cell_set {g : G} {k : Nat} (hb : BagAt g k) : g.set k hb.cell = g := (Classical.choose_spec hb.same).1
theorem BagAt.cell_ok {g : G} {k : Nat} (hb : BagAt g k) : BagC hb.cell := (Classical.choose_spec hb.same).2
end FL

/-! PC: wants, bars, what passes and what meets -/
namespace FL
open PySem PySem.Spec PyProof.Rows L2 FR
def kindsL : List Str := ["get", "walk", "put", "strike"]
def Pt.want (p : Pt) (k : Str) : List Pr := if k = "get" then p.get else if k = "walk" then p.walk else if k = "put" then p.put else p.strike
/-- the grade of a want -/
def Pt.w (p : Pt) (k : Str) (i : Nat) : Int := ((p.want k).getD i (0, 0)).1
/-- an entry of a table -/
def ent (t : List (List Int)) (a b : Int) : Int := (t.getD a.toNat []).getD b.toNat 0
theorem kind_cases {k : Str} (h : k ∈ kindsL) : k = "get" ∨ k = "walk" ∨ k = "put" ∨ k = "strike" := by simpa [kindsL] using h
theorem Pt.Ok.wantOk {p : Pt} (h : p.Ok) (k : Str) : areWB p.keys.length p.gaps.length (p.want k) = true := by
  unfold Pt.want
  split
  · exact h.w1
  · split
    · exact h.w2
    · split
      · exact h.w3
      · exact h.w4
theorem are_at {m n : Nat} {ws : List Pr} (h : areWB m n ws = true) {i : Nat} (hi : i < 4) : ∃ q, ws[i]? = some q ∧ (0 ≤ q.1 ∧ q.1 < (if i % 2 = 0 then (m : Int) else n)) ∧ (0 ≤ q.2 ∧ q.2 < 2) := by
  have l := are_len h
  match ws, l with
  | [a, b, c, d], _ =>
    simp only [areWB, belB, Bool.and_eq_true, decide_eq_true_eq] at h
    obtain ⟨⟨⟨⟨a1, a2⟩, b1, b2⟩, c1, c2⟩, d1, d2⟩ := h
    match i, hi with
    | 0, _ => exact ⟨a, rfl, a1, a2⟩
    | 1, _ => exact ⟨b, rfl, b1, b2⟩
    | 2, _ => exact ⟨c, rfl, c1, c2⟩
    | 3, _ => exact ⟨d, rfl, d1, d2⟩
theorem Pt.Ok.w_bd {p : Pt} (h : p.Ok) (k : Str) {i : Nat} (hi : i < 4) : 0 ≤ p.w k i ∧ p.w k i < (if i % 2 = 0 then (p.keys.length : Int) else p.gaps.length) := by
  obtain ⟨q, h1, h2, _⟩ := are_at (h.wantOk k) hi
  have : p.w k i = q.1 := by unfold Pt.w; rw [List.getD_eq_getElem?_getD, h1]; rfl
  rw [this]; exact h2
theorem ent_at {t : List (List Int)} {N : Nat} (hsq : ∀ r ∈ t, r.length = N) {a b : Int} (h1 : 0 ≤ a ∧ a < t.length) (h2 : 0 ≤ b ∧ b < N) : ∃ r, atI t a = some r ∧ atI r b = some (ent t a b) := by
  obtain ⟨n, rfl⟩ := Int.eq_ofNat_of_zero_le h1.1
  obtain ⟨j, rfl⟩ := Int.eq_ofNat_of_zero_le h2.1
  have hn : n < t.length := by omega
  have hr : t[n].length = N := hsq _ (List.getElem_mem hn)
  refine ⟨t[n], by rw [show ((n : Nat) : Int) = (n : Int) from rfl, atI_nat]; exact List.getElem?_eq_getElem hn, ?_⟩
  have hj : j < t[n].length := by omega
  rw [show ((j : Nat) : Int) = (j : Int) from rfl, atI_nat, List.getElem?_eq_getElem hj]
  unfold ent
  simp only [Int.toNat_natCast]
  rw [List.getD_eq_getElem?_getD, List.getD_eq_getElem?_getD, List.getElem?_eq_getElem hn]
  simp only [Option.getD_some]
  rw [List.getElem?_eq_getElem hj]; rfl
theorem ent_01 {t : List (List Int)} (h : isTabB t = true) {a b : Int} (h1 : 0 ≤ a ∧ a < t.length) (h2 : 0 ≤ b ∧ b < t.length) : ent t a b = 0 ∨ ent t a b = 1 := by
  obtain ⟨_, _, k3, k4⟩ := tab_sq h
  obtain ⟨r, e1, e2⟩ := ent_at k3 h1 h2
  obtain ⟨n, rfl⟩ := Int.eq_ofNat_of_zero_le h1.1
  obtain ⟨j, rfl⟩ := Int.eq_ofNat_of_zero_le h2.1
  rw [atI_nat] at e1 e2
  have := k4 r (List.mem_of_getElem? e1) _ (List.mem_of_getElem? e2)
  omega
theorem atI_map' {α β : Type} (f : α → β) {xs : List α} {i : Int} {x : α} (h : atI xs i = some x) : atI (xs.map f) i = some (f x) := by
  unfold atI at h ⊢
  rw [List.length_map]
  cases e : ixN xs.length i with
  | none => rw [e] at h; cases h
  | some j =>
    rw [e] at h
    simp only [Option.bind_some, List.getElem?_map] at h ⊢
    rw [h]; rfl
section
variable {p : Pt} (hp : p.Ok) {k : Str} (hk : k ∈ kindsL) (g : G)
include hk in
theorem wants_eq : F_LockBook_wants [p.bookD, .str k] g = .ok (prsD .tup (p.want k)) g := by
  refine wR_eq ?_
  have a4 : p.fs.lookup ("own_wants" : Str) = some p.wantsD := rfl
  have hin : ∀ k : Str, k ∈ kindsL → inF (.str k) [.str "get", .str "walk", .str "put", .str "strike"] = true := fun k h => by
    rcases kind_cases h with rfl | rfl | rfl | rfl <;> rfl
  unfold F_LockBook_wants b_LockBook_wants Pt.bookD K_KINDS
  simp -implicitDefEqProofs only [wR_body, wR_ok, wR_stuck, wR_exc, wR_bind, wR_var, wR_c, wR_1, wR_2, wR_nilA, wR_consA, wR_ite, wR_tup, wR_lst, wR_cellL, wR_asB, wR_test, wR_andT, wR_orT, wR_notT, onB_bl, wR_andV, wR_orV, wR_notV, wR_if, wR_call, wR_chain, wR_slice, wR_noPart, wR_part, wR_okO, wS_next, wS_fNext, wS_seq, wS_ret, wS_retN, wS_expr, wS_asg, wO_set, wO_some, wO_nils, wO_conss, wO_tup, wS_if, wS_for, wS_store, wS_par, on1_e, on2_e, onI_e, wR_range1, wR_range2, onSeq_some, wR_seqI, wR_zip, wR_enum, wR_lc, wR_yes, wR_sub, wR_add, wR_mul, wR_mod, wR_div, wR_pow, wR_neg, wR_lt, wR_le, wR_gt, wR_ge, wR_abs, wR_intC, wR_eqI, wR_eqS, wR_eqB, wR_isN, wR_lenL, wR_lenT, wR_listL, wR_listT, wR_tupL, wR_tupT, onO_some, wR_ixL, wR_ixT, sl_tup, sl_lst, sl_scr, isi_non, sub_non_int, sub_non_bool, sub_non_str, sub_non_tuple, sub_non_list, sub_non_dict, isi_bl, sub_bl_int, sub_bl_bool, sub_bl_str, sub_bl_tuple, sub_bl_list, sub_bl_dict, isi_int, sub_int_int, sub_int_bool, sub_int_str, sub_int_tuple, sub_int_list, sub_int_dict, isi_str, sub_str_int, sub_str_bool, sub_str_str, sub_str_tuple, sub_str_list, sub_str_dict, isi_tup, sub_tup_int, sub_tup_bool, sub_tup_str, sub_tup_tuple, sub_tup_list, sub_tup_dict, isi_lst, sub_lst_int, sub_lst_bool, sub_lst_str, sub_lst_tuple, sub_lst_list, sub_lst_dict, isi_dct, sub_dct_int, sub_dct_bool, sub_dct_str, sub_dct_tuple, sub_dct_list, sub_dct_dict, List.any_cons, List.any_nil, Bool.or_false, Bool.or_true, Bool.false_or, Bool.true_or, wR_addT, wR_addL, wO_star1, wR_inK, wR_inKI, wR_ixK, wR_ixKI, lookK_hit, lookK_nil, Option.isSome_some, Option.isSome_none, seqF_tup, seqF_lst, seqF_scr, sz0, sz1, sz2, sz3, sz4, sz5, sz6, sz7, sz8, sz9, sz10, sz11, sz12, sz13, sz14, sz15, sz16, startE, isN, List.length_cons, List.length_nil, List.map_cons, List.map_nil, List.cons_append, List.nil_append, List.getElem?_cons_zero, List.getElem?_cons_succ, List.set_cons_zero, List.set_cons_succ, List.reduceReplicate, Nat.reduceAdd, Nat.reduceSub, Nat.zero_add, Option.map_some, decide_eq_true_eq, Bool.false_eq_true, Bool.not_true, Bool.not_false, if_false, if_true, true_and, and_true, wR_inF (x := D.str k) (xs := [D.str "get", D.str "walk", D.str "put", D.str "strike"]) ⟨rfl, rfl⟩, hin k hk, wR_fld, a4, List.mem_cons, List.not_mem_nil, or_false, Pt.wantsD]
  rcases kind_cases hk with rfl | rfl | rfl | rfl
  · simp only [lk1, wR_ok, wR_stuck, wR_exc, wR_bind, wR_var, wR_c, wR_1, wR_2, wR_nilA, wR_consA, wR_ite, wR_tup, wR_lst, wR_cellL, wR_asB, wR_test, wR_andT, wR_orT, wR_notT, onB_bl, wR_andV, wR_orV, wR_notV, wR_if, wR_call, wR_chain, wR_slice, wR_noPart, wR_part, wR_okO, wS_next, wS_fNext, wS_seq, wS_ret, wS_retN, wS_expr, wS_asg, wO_set, wO_some, wO_nils, wO_conss, wO_tup, wS_if, wS_for, wS_store, wS_par, on1_e, on2_e, onI_e, wR_range1, wR_range2, onSeq_some, wR_seqI, wR_zip, wR_enum, wR_lc, wR_yes, wR_sub, wR_add, wR_mul, wR_mod, wR_div, wR_pow, wR_neg, wR_lt, wR_le, wR_gt, wR_ge, wR_abs, wR_intC, wR_eqI, wR_eqS, wR_eqB, wR_isN, wR_lenL, wR_lenT, wR_listL, wR_listT, wR_tupL, wR_tupT, onO_some, wR_ixL, wR_ixT, sl_tup, sl_lst, sl_scr, isi_non, sub_non_int, sub_non_bool, sub_non_str, sub_non_tuple, sub_non_list, sub_non_dict, isi_bl, sub_bl_int, sub_bl_bool, sub_bl_str, sub_bl_tuple, sub_bl_list, sub_bl_dict, isi_int, sub_int_int, sub_int_bool, sub_int_str, sub_int_tuple, sub_int_list, sub_int_dict, isi_str, sub_str_int, sub_str_bool, sub_str_str, sub_str_tuple, sub_str_list, sub_str_dict, isi_tup, sub_tup_int, sub_tup_bool, sub_tup_str, sub_tup_tuple, sub_tup_list, sub_tup_dict, isi_lst, sub_lst_int, sub_lst_bool, sub_lst_str, sub_lst_tuple, sub_lst_list, sub_lst_dict, isi_dct, sub_dct_int, sub_dct_bool, sub_dct_str, sub_dct_tuple, sub_dct_list, sub_dct_dict, List.any_cons, List.any_nil, Bool.or_false, Bool.or_true, Bool.false_or, Bool.true_or, wR_addT, wR_addL, wO_star1, wR_inK, wR_inKI, wR_ixK, wR_ixKI, lookK_hit, lookK_nil, Option.isSome_some, Option.isSome_none, seqF_tup, seqF_lst, seqF_scr, sz0, sz1, sz2, sz3, sz4, sz5, sz6, sz7, sz8, sz9, sz10, sz11, sz12, sz13, sz14, sz15, sz16, startE, isN, List.length_cons, List.length_nil, List.map_cons, List.map_nil, List.cons_append, List.nil_append, List.getElem?_cons_zero, List.getElem?_cons_succ, List.set_cons_zero, List.set_cons_succ, List.reduceReplicate, Nat.reduceAdd, Nat.reduceSub, Nat.zero_add, Option.map_some, decide_eq_true_eq, Bool.false_eq_true, Bool.not_true, Bool.not_false, if_false, if_true, true_and, and_true]; rfl
  · simp only [lk2, wR_ok, wR_stuck, wR_exc, wR_bind, wR_var, wR_c, wR_1, wR_2, wR_nilA, wR_consA, wR_ite, wR_tup, wR_lst, wR_cellL, wR_asB, wR_test, wR_andT, wR_orT, wR_notT, onB_bl, wR_andV, wR_orV, wR_notV, wR_if, wR_call, wR_chain, wR_slice, wR_noPart, wR_part, wR_okO, wS_next, wS_fNext, wS_seq, wS_ret, wS_retN, wS_expr, wS_asg, wO_set, wO_some, wO_nils, wO_conss, wO_tup, wS_if, wS_for, wS_store, wS_par, on1_e, on2_e, onI_e, wR_range1, wR_range2, onSeq_some, wR_seqI, wR_zip, wR_enum, wR_lc, wR_yes, wR_sub, wR_add, wR_mul, wR_mod, wR_div, wR_pow, wR_neg, wR_lt, wR_le, wR_gt, wR_ge, wR_abs, wR_intC, wR_eqI, wR_eqS, wR_eqB, wR_isN, wR_lenL, wR_lenT, wR_listL, wR_listT, wR_tupL, wR_tupT, onO_some, wR_ixL, wR_ixT, sl_tup, sl_lst, sl_scr, isi_non, sub_non_int, sub_non_bool, sub_non_str, sub_non_tuple, sub_non_list, sub_non_dict, isi_bl, sub_bl_int, sub_bl_bool, sub_bl_str, sub_bl_tuple, sub_bl_list, sub_bl_dict, isi_int, sub_int_int, sub_int_bool, sub_int_str, sub_int_tuple, sub_int_list, sub_int_dict, isi_str, sub_str_int, sub_str_bool, sub_str_str, sub_str_tuple, sub_str_list, sub_str_dict, isi_tup, sub_tup_int, sub_tup_bool, sub_tup_str, sub_tup_tuple, sub_tup_list, sub_tup_dict, isi_lst, sub_lst_int, sub_lst_bool, sub_lst_str, sub_lst_tuple, sub_lst_list, sub_lst_dict, isi_dct, sub_dct_int, sub_dct_bool, sub_dct_str, sub_dct_tuple, sub_dct_list, sub_dct_dict, List.any_cons, List.any_nil, Bool.or_false, Bool.or_true, Bool.false_or, Bool.true_or, wR_addT, wR_addL, wO_star1, wR_inK, wR_inKI, wR_ixK, wR_ixKI, lookK_hit, lookK_nil, Option.isSome_some, Option.isSome_none, seqF_tup, seqF_lst, seqF_scr, sz0, sz1, sz2, sz3, sz4, sz5, sz6, sz7, sz8, sz9, sz10, sz11, sz12, sz13, sz14, sz15, sz16, startE, isN, List.length_cons, List.length_nil, List.map_cons, List.map_nil, List.cons_append, List.nil_append, List.getElem?_cons_zero, List.getElem?_cons_succ, List.set_cons_zero, List.set_cons_succ, List.reduceReplicate, Nat.reduceAdd, Nat.reduceSub, Nat.zero_add, Option.map_some, decide_eq_true_eq, Bool.false_eq_true, Bool.not_true, Bool.not_false, if_false, if_true, true_and, and_true]; rfl
  · simp only [lk3, wR_ok, wR_stuck, wR_exc, wR_bind, wR_var, wR_c, wR_1, wR_2, wR_nilA, wR_consA, wR_ite, wR_tup, wR_lst, wR_cellL, wR_asB, wR_test, wR_andT, wR_orT, wR_notT, onB_bl, wR_andV, wR_orV, wR_notV, wR_if, wR_call, wR_chain, wR_slice, wR_noPart, wR_part, wR_okO, wS_next, wS_fNext, wS_seq, wS_ret, wS_retN, wS_expr, wS_asg, wO_set, wO_some, wO_nils, wO_conss, wO_tup, wS_if, wS_for, wS_store, wS_par, on1_e, on2_e, onI_e, wR_range1, wR_range2, onSeq_some, wR_seqI, wR_zip, wR_enum, wR_lc, wR_yes, wR_sub, wR_add, wR_mul, wR_mod, wR_div, wR_pow, wR_neg, wR_lt, wR_le, wR_gt, wR_ge, wR_abs, wR_intC, wR_eqI, wR_eqS, wR_eqB, wR_isN, wR_lenL, wR_lenT, wR_listL, wR_listT, wR_tupL, wR_tupT, onO_some, wR_ixL, wR_ixT, sl_tup, sl_lst, sl_scr, isi_non, sub_non_int, sub_non_bool, sub_non_str, sub_non_tuple, sub_non_list, sub_non_dict, isi_bl, sub_bl_int, sub_bl_bool, sub_bl_str, sub_bl_tuple, sub_bl_list, sub_bl_dict, isi_int, sub_int_int, sub_int_bool, sub_int_str, sub_int_tuple, sub_int_list, sub_int_dict, isi_str, sub_str_int, sub_str_bool, sub_str_str, sub_str_tuple, sub_str_list, sub_str_dict, isi_tup, sub_tup_int, sub_tup_bool, sub_tup_str, sub_tup_tuple, sub_tup_list, sub_tup_dict, isi_lst, sub_lst_int, sub_lst_bool, sub_lst_str, sub_lst_tuple, sub_lst_list, sub_lst_dict, isi_dct, sub_dct_int, sub_dct_bool, sub_dct_str, sub_dct_tuple, sub_dct_list, sub_dct_dict, List.any_cons, List.any_nil, Bool.or_false, Bool.or_true, Bool.false_or, Bool.true_or, wR_addT, wR_addL, wO_star1, wR_inK, wR_inKI, wR_ixK, wR_ixKI, lookK_hit, lookK_nil, Option.isSome_some, Option.isSome_none, seqF_tup, seqF_lst, seqF_scr, sz0, sz1, sz2, sz3, sz4, sz5, sz6, sz7, sz8, sz9, sz10, sz11, sz12, sz13, sz14, sz15, sz16, startE, isN, List.length_cons, List.length_nil, List.map_cons, List.map_nil, List.cons_append, List.nil_append, List.getElem?_cons_zero, List.getElem?_cons_succ, List.set_cons_zero, List.set_cons_succ, List.reduceReplicate, Nat.reduceAdd, Nat.reduceSub, Nat.zero_add, Option.map_some, decide_eq_true_eq, Bool.false_eq_true, Bool.not_true, Bool.not_false, if_false, if_true, true_and, and_true]; rfl
  · simp only [lk4, wR_ok, wR_stuck, wR_exc, wR_bind, wR_var, wR_c, wR_1, wR_2, wR_nilA, wR_consA, wR_ite, wR_tup, wR_lst, wR_cellL, wR_asB, wR_test, wR_andT, wR_orT, wR_notT, onB_bl, wR_andV, wR_orV, wR_notV, wR_if, wR_call, wR_chain, wR_slice, wR_noPart, wR_part, wR_okO, wS_next, wS_fNext, wS_seq, wS_ret, wS_retN, wS_expr, wS_asg, wO_set, wO_some, wO_nils, wO_conss, wO_tup, wS_if, wS_for, wS_store, wS_par, on1_e, on2_e, onI_e, wR_range1, wR_range2, onSeq_some, wR_seqI, wR_zip, wR_enum, wR_lc, wR_yes, wR_sub, wR_add, wR_mul, wR_mod, wR_div, wR_pow, wR_neg, wR_lt, wR_le, wR_gt, wR_ge, wR_abs, wR_intC, wR_eqI, wR_eqS, wR_eqB, wR_isN, wR_lenL, wR_lenT, wR_listL, wR_listT, wR_tupL, wR_tupT, onO_some, wR_ixL, wR_ixT, sl_tup, sl_lst, sl_scr, isi_non, sub_non_int, sub_non_bool, sub_non_str, sub_non_tuple, sub_non_list, sub_non_dict, isi_bl, sub_bl_int, sub_bl_bool, sub_bl_str, sub_bl_tuple, sub_bl_list, sub_bl_dict, isi_int, sub_int_int, sub_int_bool, sub_int_str, sub_int_tuple, sub_int_list, sub_int_dict, isi_str, sub_str_int, sub_str_bool, sub_str_str, sub_str_tuple, sub_str_list, sub_str_dict, isi_tup, sub_tup_int, sub_tup_bool, sub_tup_str, sub_tup_tuple, sub_tup_list, sub_tup_dict, isi_lst, sub_lst_int, sub_lst_bool, sub_lst_str, sub_lst_tuple, sub_lst_list, sub_lst_dict, isi_dct, sub_dct_int, sub_dct_bool, sub_dct_str, sub_dct_tuple, sub_dct_list, sub_dct_dict, List.any_cons, List.any_nil, Bool.or_false, Bool.or_true, Bool.false_or, Bool.true_or, wR_addT, wR_addL, wO_star1, wR_inK, wR_inKI, wR_ixK, wR_ixKI, lookK_hit, lookK_nil, Option.isSome_some, Option.isSome_none, seqF_tup, seqF_lst, seqF_scr, sz0, sz1, sz2, sz3, sz4, sz5, sz6, sz7, sz8, sz9, sz10, sz11, sz12, sz13, sz14, sz15, sz16, startE, isN, List.length_cons, List.length_nil, List.map_cons, List.map_nil, List.cons_append, List.nil_append, List.getElem?_cons_zero, List.getElem?_cons_succ, List.set_cons_zero, List.set_cons_succ, List.reduceReplicate, Nat.reduceAdd, Nat.reduceSub, Nat.zero_add, Option.map_some, decide_eq_true_eq, Bool.false_eq_true, Bool.not_true, Bool.not_false, if_false, if_true, true_and, and_true]; rfl
include hp hk in
theorem wanted_eq {i : Nat} (hi : i < 4) : F_LockBook_wanted [p.bookD, .str k, .int i] g = .ok (.int (p.w k i)) g := by
  obtain ⟨q, h1, _, _⟩ := are_at (hp.wantOk k) hi
  have hw : p.w k i = q.1 := by unfold Pt.w; rw [List.getD_eq_getElem?_getD, h1]; rfl
  have ib : ∀ g, insD g p.bookD = some (("LockBook" : Str), p.fs) := fun _ => rfl
  have lkw : (p.fs.lookup ("wants" : Str)).isNone = true := rfl
  have no : dDf F_LockBook_wants [] = F_LockBook_wants := by funext ds g; unfold dDf; rw [List.append_nil]
  have hq : Sq (prsD .tup (p.want k)) ((p.want k).map pairD) := .t
  refine wR_eq ?_
  unfold F_LockBook_wanted b_LockBook_wanted
  simp -implicitDefEqProofs only [wR_body, wR_ok, wR_stuck, wR_exc, wR_bind, wR_var, wR_c, wR_1, wR_2, wR_nilA, wR_consA, wR_ite, wR_tup, wR_lst, wR_cellL, wR_asB, wR_test, wR_andT, wR_orT, wR_notT, onB_bl, wR_andV, wR_orV, wR_notV, wR_if, wR_call, wR_chain, wR_slice, wR_noPart, wR_part, wR_okO, wS_next, wS_fNext, wS_seq, wS_ret, wS_retN, wS_expr, wS_asg, wO_set, wO_some, wO_nils, wO_conss, wO_tup, wS_if, wS_for, wS_store, wS_par, on1_e, on2_e, onI_e, wR_range1, wR_range2, onSeq_some, wR_seqI, wR_zip, wR_enum, wR_lc, wR_yes, wR_sub, wR_add, wR_mul, wR_mod, wR_div, wR_pow, wR_neg, wR_lt, wR_le, wR_gt, wR_ge, wR_abs, wR_intC, wR_eqI, wR_eqS, wR_eqB, wR_isN, wR_lenL, wR_lenT, wR_listL, wR_listT, wR_tupL, wR_tupT, onO_some, wR_ixL, wR_ixT, sl_tup, sl_lst, sl_scr, isi_non, sub_non_int, sub_non_bool, sub_non_str, sub_non_tuple, sub_non_list, sub_non_dict, isi_bl, sub_bl_int, sub_bl_bool, sub_bl_str, sub_bl_tuple, sub_bl_list, sub_bl_dict, isi_int, sub_int_int, sub_int_bool, sub_int_str, sub_int_tuple, sub_int_list, sub_int_dict, isi_str, sub_str_int, sub_str_bool, sub_str_str, sub_str_tuple, sub_str_list, sub_str_dict, isi_tup, sub_tup_int, sub_tup_bool, sub_tup_str, sub_tup_tuple, sub_tup_list, sub_tup_dict, isi_lst, sub_lst_int, sub_lst_bool, sub_lst_str, sub_lst_tuple, sub_lst_list, sub_lst_dict, isi_dct, sub_dct_int, sub_dct_bool, sub_dct_str, sub_dct_tuple, sub_dct_list, sub_dct_dict, List.any_cons, List.any_nil, Bool.or_false, Bool.or_true, Bool.false_or, Bool.true_or, wR_addT, wR_addL, wO_star1, wR_inK, wR_inKI, wR_ixK, wR_ixKI, lookK_hit, lookK_nil, Option.isSome_some, Option.isSome_none, seqF_tup, seqF_lst, seqF_scr, sz0, sz1, sz2, sz3, sz4, sz5, sz6, sz7, sz8, sz9, sz10, sz11, sz12, sz13, sz14, sz15, sz16, startE, isN, List.length_cons, List.length_nil, List.map_cons, List.map_nil, List.cons_append, List.nil_append, List.getElem?_cons_zero, List.getElem?_cons_succ, List.set_cons_zero, List.set_cons_succ, List.reduceReplicate, Nat.reduceAdd, Nat.reduceSub, Nat.zero_add, Option.map_some, decide_eq_true_eq, Bool.false_eq_true, Bool.not_true, Bool.not_false, if_false, if_true, true_and, and_true, wR_meth, ib, onIns_some, lkw, no, eq_wR (wants_eq hk _), wR_ixQ hq, atI_nat, List.getElem?_map, h1, pairD, atI_zero, hw]
include hp in
theorem barsk_eq {a b : Int} (h1 : 0 ≤ a ∧ a < p.keys.length) (h2 : 0 ≤ b ∧ b < p.keys.length) : F_LockBook_bars_key [p.bookD, .int a, .int b] g = .ok (.bl (decide (ent p.keys a b = 1))) g := by
  have a4 : p.fs.lookup ("own_keys" : Str) = some (tabD .tup .tup p.keys) := rfl
  obtain ⟨_, _, k3, _⟩ := tab_sq hp.k1
  obtain ⟨r, e1, e2⟩ := ent_at k3 h1 h2
  have hq : Sq (tabD .tup .tup p.keys) (p.keys.map (rowD .tup)) := .t
  have hr : Sq (rowD .tup r) (r.map D.int) := .t
  refine wR_eq ?_
  unfold F_LockBook_bars_key b_LockBook_bars_key Pt.bookD
  simp -implicitDefEqProofs only [wR_body, wR_ok, wR_stuck, wR_exc, wR_bind, wR_var, wR_c, wR_1, wR_2, wR_nilA, wR_consA, wR_ite, wR_tup, wR_lst, wR_cellL, wR_asB, wR_test, wR_andT, wR_orT, wR_notT, onB_bl, wR_andV, wR_orV, wR_notV, wR_if, wR_call, wR_chain, wR_slice, wR_noPart, wR_part, wR_okO, wS_next, wS_fNext, wS_seq, wS_ret, wS_retN, wS_expr, wS_asg, wO_set, wO_some, wO_nils, wO_conss, wO_tup, wS_if, wS_for, wS_store, wS_par, on1_e, on2_e, onI_e, wR_range1, wR_range2, onSeq_some, wR_seqI, wR_zip, wR_enum, wR_lc, wR_yes, wR_sub, wR_add, wR_mul, wR_mod, wR_div, wR_pow, wR_neg, wR_lt, wR_le, wR_gt, wR_ge, wR_abs, wR_intC, wR_eqI, wR_eqS, wR_eqB, wR_isN, wR_lenL, wR_lenT, wR_listL, wR_listT, wR_tupL, wR_tupT, onO_some, wR_ixL, wR_ixT, sl_tup, sl_lst, sl_scr, isi_non, sub_non_int, sub_non_bool, sub_non_str, sub_non_tuple, sub_non_list, sub_non_dict, isi_bl, sub_bl_int, sub_bl_bool, sub_bl_str, sub_bl_tuple, sub_bl_list, sub_bl_dict, isi_int, sub_int_int, sub_int_bool, sub_int_str, sub_int_tuple, sub_int_list, sub_int_dict, isi_str, sub_str_int, sub_str_bool, sub_str_str, sub_str_tuple, sub_str_list, sub_str_dict, isi_tup, sub_tup_int, sub_tup_bool, sub_tup_str, sub_tup_tuple, sub_tup_list, sub_tup_dict, isi_lst, sub_lst_int, sub_lst_bool, sub_lst_str, sub_lst_tuple, sub_lst_list, sub_lst_dict, isi_dct, sub_dct_int, sub_dct_bool, sub_dct_str, sub_dct_tuple, sub_dct_list, sub_dct_dict, List.any_cons, List.any_nil, Bool.or_false, Bool.or_true, Bool.false_or, Bool.true_or, wR_addT, wR_addL, wO_star1, wR_inK, wR_inKI, wR_ixK, wR_ixKI, lookK_hit, lookK_nil, Option.isSome_some, Option.isSome_none, seqF_tup, seqF_lst, seqF_scr, sz0, sz1, sz2, sz3, sz4, sz5, sz6, sz7, sz8, sz9, sz10, sz11, sz12, sz13, sz14, sz15, sz16, startE, isN, List.length_cons, List.length_nil, List.map_cons, List.map_nil, List.cons_append, List.nil_append, List.getElem?_cons_zero, List.getElem?_cons_succ, List.set_cons_zero, List.set_cons_succ, List.reduceReplicate, Nat.reduceAdd, Nat.reduceSub, Nat.zero_add, Option.map_some, decide_eq_true_eq, Bool.false_eq_true, Bool.not_true, Bool.not_false, if_false, if_true, true_and, and_true, wR_fld, a4, List.mem_cons, List.not_mem_nil, or_false, wR_ixQ hq, atI_map' _ e1, wR_ixQ hr, atI_map' _ e2]
include hp in
theorem barsg_eq {a b : Int} (h1 : 0 ≤ a ∧ a < p.gaps.length) (h2 : 0 ≤ b ∧ b < p.gaps.length) : F_LockBook_bars_gap [p.bookD, .int a, .int b] g = .ok (.bl (decide (ent p.gaps a b = 1))) g := by
  have a4 : p.fs.lookup ("own_gaps" : Str) = some (tabD .tup .tup p.gaps) := rfl
  obtain ⟨_, _, k3, _⟩ := tab_sq hp.g1
  obtain ⟨r, e1, e2⟩ := ent_at k3 h1 h2
  have hq : Sq (tabD .tup .tup p.gaps) (p.gaps.map (rowD .tup)) := .t
  have hr : Sq (rowD .tup r) (r.map D.int) := .t
  refine wR_eq ?_
  unfold F_LockBook_bars_gap b_LockBook_bars_gap Pt.bookD
  simp -implicitDefEqProofs only [wR_body, wR_ok, wR_stuck, wR_exc, wR_bind, wR_var, wR_c, wR_1, wR_2, wR_nilA, wR_consA, wR_ite, wR_tup, wR_lst, wR_cellL, wR_asB, wR_test, wR_andT, wR_orT, wR_notT, onB_bl, wR_andV, wR_orV, wR_notV, wR_if, wR_call, wR_chain, wR_slice, wR_noPart, wR_part, wR_okO, wS_next, wS_fNext, wS_seq, wS_ret, wS_retN, wS_expr, wS_asg, wO_set, wO_some, wO_nils, wO_conss, wO_tup, wS_if, wS_for, wS_store, wS_par, on1_e, on2_e, onI_e, wR_range1, wR_range2, onSeq_some, wR_seqI, wR_zip, wR_enum, wR_lc, wR_yes, wR_sub, wR_add, wR_mul, wR_mod, wR_div, wR_pow, wR_neg, wR_lt, wR_le, wR_gt, wR_ge, wR_abs, wR_intC, wR_eqI, wR_eqS, wR_eqB, wR_isN, wR_lenL, wR_lenT, wR_listL, wR_listT, wR_tupL, wR_tupT, onO_some, wR_ixL, wR_ixT, sl_tup, sl_lst, sl_scr, isi_non, sub_non_int, sub_non_bool, sub_non_str, sub_non_tuple, sub_non_list, sub_non_dict, isi_bl, sub_bl_int, sub_bl_bool, sub_bl_str, sub_bl_tuple, sub_bl_list, sub_bl_dict, isi_int, sub_int_int, sub_int_bool, sub_int_str, sub_int_tuple, sub_int_list, sub_int_dict, isi_str, sub_str_int, sub_str_bool, sub_str_str, sub_str_tuple, sub_str_list, sub_str_dict, isi_tup, sub_tup_int, sub_tup_bool, sub_tup_str, sub_tup_tuple, sub_tup_list, sub_tup_dict, isi_lst, sub_lst_int, sub_lst_bool, sub_lst_str, sub_lst_tuple, sub_lst_list, sub_lst_dict, isi_dct, sub_dct_int, sub_dct_bool, sub_dct_str, sub_dct_tuple, sub_dct_list, sub_dct_dict, List.any_cons, List.any_nil, Bool.or_false, Bool.or_true, Bool.false_or, Bool.true_or, wR_addT, wR_addL, wO_star1, wR_inK, wR_inKI, wR_ixK, wR_ixKI, lookK_hit, lookK_nil, Option.isSome_some, Option.isSome_none, seqF_tup, seqF_lst, seqF_scr, sz0, sz1, sz2, sz3, sz4, sz5, sz6, sz7, sz8, sz9, sz10, sz11, sz12, sz13, sz14, sz15, sz16, startE, isN, List.length_cons, List.length_nil, List.map_cons, List.map_nil, List.cons_append, List.nil_append, List.getElem?_cons_zero, List.getElem?_cons_succ, List.set_cons_zero, List.set_cons_succ, List.reduceReplicate, Nat.reduceAdd, Nat.reduceSub, Nat.zero_add, Option.map_some, decide_eq_true_eq, Bool.false_eq_true, Bool.not_true, Bool.not_false, if_false, if_true, true_and, and_true, wR_fld, a4, List.mem_cons, List.not_mem_nil, or_false, wR_ixQ hq, atI_map' _ e1, wR_ixQ hr, atI_map' _ e2]
end
/-- an ask with the wants i and i + 1 is not barred by a grade in the gap and one on the key -/
def Pt.lets (p : Pt) (k : Str) (i : Nat) (gr on : Int) : Bool := decide (ent p.keys on (p.w k i) = 0) && decide (ent p.gaps gr (p.w k (i + 1)) = 0)
section
variable {p : Pt} (hp : p.Ok) {k : Str} (hk : k ∈ kindsL) {gr on : Int} (hgr : 0 ≤ gr ∧ gr < p.gaps.length) (hon : 0 ≤ on ∧ on < p.keys.length) (x : D) (rest : List D) (g : G)
include hp hk hgr hon
theorem letsm_eq : F_lets_meet [p.bookD, .str k, .tup (x :: .int gr :: .int on :: rest)] g = .ok (.bl (p.lets k 0 gr on)) g := by
  have ib : ∀ g, insD g p.bookD = some (("LockBook" : Str), p.fs) := fun _ => rfl
  have l1 : (p.fs.lookup ("bars_gap" : Str)).isNone = true := rfl
  have l2 : (p.fs.lookup ("bars_key" : Str)).isNone = true := rfl
  have l3 : (p.fs.lookup ("wanted" : Str)).isNone = true := rfl
  have n1 : dDf F_LockBook_bars_gap [] = F_LockBook_bars_gap := by funext ds g; unfold dDf; rw [List.append_nil]
  have n2 : dDf F_LockBook_bars_key [] = F_LockBook_bars_key := by funext ds g; unfold dDf; rw [List.append_nil]
  have n3 : dDf F_LockBook_wanted [] = F_LockBook_wanted := by funext ds g; unfold dDf; rw [List.append_nil]
  have w0 := hp.w_bd k (i := 0) (by decide)
  have w1 := hp.w_bd k (i := 1) (by decide)
  have v0 : ∀ g, F_LockBook_wanted [p.bookD, .str k, .int 0] g = .ok (.int (p.w k 0)) g := fun g => wanted_eq hp hk g (i := 0) (by decide)
  have v1 : ∀ g, F_LockBook_wanted [p.bookD, .str k, .int 1] g = .ok (.int (p.w k 1)) g := fun g => wanted_eq hp hk g (i := 1) (by decide)
  have e1 := ent_01 hp.g1 hgr (b := p.w k 1) (by simpa using w1)
  have e0 := ent_01 hp.k1 hon (b := p.w k 0) (by simpa using w0)
  refine wR_eq ?_
  unfold F_lets_meet b_lets_meet Pt.lets
  simp -implicitDefEqProofs only [wR_body, wR_ok, wR_stuck, wR_exc, wR_bind, wR_var, wR_c, wR_1, wR_2, wR_nilA, wR_consA, wR_ite, wR_tup, wR_lst, wR_cellL, wR_asB, wR_test, wR_andT, wR_orT, wR_notT, onB_bl, wR_andV, wR_orV, wR_notV, wR_if, wR_call, wR_chain, wR_slice, wR_noPart, wR_part, wR_okO, wS_next, wS_fNext, wS_seq, wS_ret, wS_retN, wS_expr, wS_asg, wO_set, wO_some, wO_nils, wO_conss, wO_tup, wS_if, wS_for, wS_store, wS_par, on1_e, on2_e, onI_e, wR_range1, wR_range2, onSeq_some, wR_seqI, wR_zip, wR_enum, wR_lc, wR_yes, wR_sub, wR_add, wR_mul, wR_mod, wR_div, wR_pow, wR_neg, wR_lt, wR_le, wR_gt, wR_ge, wR_abs, wR_intC, wR_eqI, wR_eqS, wR_eqB, wR_isN, wR_lenL, wR_lenT, wR_listL, wR_listT, wR_tupL, wR_tupT, onO_some, wR_ixL, wR_ixT, sl_tup, sl_lst, sl_scr, isi_non, sub_non_int, sub_non_bool, sub_non_str, sub_non_tuple, sub_non_list, sub_non_dict, isi_bl, sub_bl_int, sub_bl_bool, sub_bl_str, sub_bl_tuple, sub_bl_list, sub_bl_dict, isi_int, sub_int_int, sub_int_bool, sub_int_str, sub_int_tuple, sub_int_list, sub_int_dict, isi_str, sub_str_int, sub_str_bool, sub_str_str, sub_str_tuple, sub_str_list, sub_str_dict, isi_tup, sub_tup_int, sub_tup_bool, sub_tup_str, sub_tup_tuple, sub_tup_list, sub_tup_dict, isi_lst, sub_lst_int, sub_lst_bool, sub_lst_str, sub_lst_tuple, sub_lst_list, sub_lst_dict, isi_dct, sub_dct_int, sub_dct_bool, sub_dct_str, sub_dct_tuple, sub_dct_list, sub_dct_dict, List.any_cons, List.any_nil, Bool.or_false, Bool.or_true, Bool.false_or, Bool.true_or, wR_addT, wR_addL, wO_star1, wR_inK, wR_inKI, wR_ixK, wR_ixKI, lookK_hit, lookK_nil, Option.isSome_some, Option.isSome_none, seqF_tup, seqF_lst, seqF_scr, sz0, sz1, sz2, sz3, sz4, sz5, sz6, sz7, sz8, sz9, sz10, sz11, sz12, sz13, sz14, sz15, sz16, startE, isN, List.length_cons, List.length_nil, List.map_cons, List.map_nil, List.cons_append, List.nil_append, List.getElem?_cons_zero, List.getElem?_cons_succ, List.set_cons_zero, List.set_cons_succ, List.reduceReplicate, Nat.reduceAdd, Nat.reduceSub, Nat.zero_add, Option.map_some, decide_eq_true_eq, Bool.false_eq_true, Bool.not_true, Bool.not_false, if_false, if_true, true_and, and_true, wR_meth, ib, onIns_some, l1, l2, l3, n1, n2, n3, atI_one, atI_two, eq_wR (v1 _), eq_wR (v0 _), eq_wR (barsg_eq hp _ hgr (b := p.w k 1) (by simpa using w1)), eq_wR (barsk_eq hp _ hon (b := p.w k 0) (by simpa using w0))]
  rcases e1 with e1 | e1 <;> rcases e0 with e0 | e0 <;> simp [e1, e0, wR_ok, wR_stuck, wR_exc, wR_bind, wR_var, wR_c, wR_1, wR_2, wR_nilA, wR_consA, wR_ite, wR_tup, wR_lst, wR_cellL, wR_asB, wR_test, wR_andT, wR_orT, wR_notT, onB_bl, wR_andV, wR_orV, wR_notV, wR_if, wR_call, wR_chain, wR_slice, wR_noPart, wR_part, wR_okO, wS_next, wS_fNext, wS_seq, wS_ret, wS_retN, wS_expr, wS_asg, wO_set, wO_some, wO_nils, wO_conss, wO_tup, wS_if, wS_for, wS_store, wS_par, on1_e, on2_e, onI_e, wR_range1, wR_range2, onSeq_some, wR_seqI, wR_zip, wR_enum, wR_lc, wR_yes, wR_sub, wR_add, wR_mul, wR_mod, wR_div, wR_pow, wR_neg, wR_lt, wR_le, wR_gt, wR_ge, wR_abs, wR_intC, wR_eqI, wR_eqS, wR_eqB, wR_isN, wR_lenL, wR_lenT, wR_listL, wR_listT, wR_tupL, wR_tupT, onO_some, wR_ixL, wR_ixT, sl_tup, sl_lst, sl_scr, isi_non, sub_non_int, sub_non_bool, sub_non_str, sub_non_tuple, sub_non_list, sub_non_dict, isi_bl, sub_bl_int, sub_bl_bool, sub_bl_str, sub_bl_tuple, sub_bl_list, sub_bl_dict, isi_int, sub_int_int, sub_int_bool, sub_int_str, sub_int_tuple, sub_int_list, sub_int_dict, isi_str, sub_str_int, sub_str_bool, sub_str_str, sub_str_tuple, sub_str_list, sub_str_dict, isi_tup, sub_tup_int, sub_tup_bool, sub_tup_str, sub_tup_tuple, sub_tup_list, sub_tup_dict, isi_lst, sub_lst_int, sub_lst_bool, sub_lst_str, sub_lst_tuple, sub_lst_list, sub_lst_dict, isi_dct, sub_dct_int, sub_dct_bool, sub_dct_str, sub_dct_tuple, sub_dct_list, sub_dct_dict, List.any_cons, List.any_nil, Bool.or_false, Bool.or_true, Bool.false_or, Bool.true_or, wR_addT, wR_addL, wO_star1, wR_inK, wR_inKI, wR_ixK, wR_ixKI, lookK_hit, lookK_nil, Option.isSome_some, Option.isSome_none, seqF_tup, seqF_lst, seqF_scr, sz0, sz1, sz2, sz3, sz4, sz5, sz6, sz7, sz8, sz9, sz10, sz11, sz12, sz13, sz14, sz15, sz16, startE, isN, List.length_cons, List.length_nil, List.map_cons, List.map_nil, List.cons_append, List.nil_append, List.getElem?_cons_zero, List.getElem?_cons_succ, List.set_cons_zero, List.set_cons_succ, List.reduceReplicate, Nat.reduceAdd, Nat.reduceSub, Nat.zero_add, Option.map_some, decide_eq_true_eq, Bool.false_eq_true, Bool.not_true, Bool.not_false, if_false, if_true, true_and, and_true, wR_meth, ib, onIns_some, l1, l2, l3, n1, n2, n3, atI_one, atI_two, eq_wR (v0 _), eq_wR (barsk_eq hp _ hon (b := p.w k 0) (by simpa using w0))]
theorem letsp_eq : F_lets_pass [p.bookD, .str k, .tup (x :: .int gr :: .int on :: rest)] g = .ok (.bl (p.lets k 2 gr on)) g := by
  have ib : ∀ g, insD g p.bookD = some (("LockBook" : Str), p.fs) := fun _ => rfl
  have l1 : (p.fs.lookup ("bars_gap" : Str)).isNone = true := rfl
  have l2 : (p.fs.lookup ("bars_key" : Str)).isNone = true := rfl
  have l3 : (p.fs.lookup ("wanted" : Str)).isNone = true := rfl
  have n1 : dDf F_LockBook_bars_gap [] = F_LockBook_bars_gap := by funext ds g; unfold dDf; rw [List.append_nil]
  have n2 : dDf F_LockBook_bars_key [] = F_LockBook_bars_key := by funext ds g; unfold dDf; rw [List.append_nil]
  have n3 : dDf F_LockBook_wanted [] = F_LockBook_wanted := by funext ds g; unfold dDf; rw [List.append_nil]
  have w0 := hp.w_bd k (i := 2) (by decide)
  have w1 := hp.w_bd k (i := 3) (by decide)
  have v0 : ∀ g, F_LockBook_wanted [p.bookD, .str k, .int 2] g = .ok (.int (p.w k 2)) g := fun g => wanted_eq hp hk g (i := 2) (by decide)
  have v1 : ∀ g, F_LockBook_wanted [p.bookD, .str k, .int 3] g = .ok (.int (p.w k 3)) g := fun g => wanted_eq hp hk g (i := 3) (by decide)
  have e1 := ent_01 hp.g1 hgr (b := p.w k 3) (by simpa using w1)
  have e0 := ent_01 hp.k1 hon (b := p.w k 2) (by simpa using w0)
  refine wR_eq ?_
  unfold F_lets_pass b_lets_pass Pt.lets
  simp -implicitDefEqProofs only [wR_body, wR_ok, wR_stuck, wR_exc, wR_bind, wR_var, wR_c, wR_1, wR_2, wR_nilA, wR_consA, wR_ite, wR_tup, wR_lst, wR_cellL, wR_asB, wR_test, wR_andT, wR_orT, wR_notT, onB_bl, wR_andV, wR_orV, wR_notV, wR_if, wR_call, wR_chain, wR_slice, wR_noPart, wR_part, wR_okO, wS_next, wS_fNext, wS_seq, wS_ret, wS_retN, wS_expr, wS_asg, wO_set, wO_some, wO_nils, wO_conss, wO_tup, wS_if, wS_for, wS_store, wS_par, on1_e, on2_e, onI_e, wR_range1, wR_range2, onSeq_some, wR_seqI, wR_zip, wR_enum, wR_lc, wR_yes, wR_sub, wR_add, wR_mul, wR_mod, wR_div, wR_pow, wR_neg, wR_lt, wR_le, wR_gt, wR_ge, wR_abs, wR_intC, wR_eqI, wR_eqS, wR_eqB, wR_isN, wR_lenL, wR_lenT, wR_listL, wR_listT, wR_tupL, wR_tupT, onO_some, wR_ixL, wR_ixT, sl_tup, sl_lst, sl_scr, isi_non, sub_non_int, sub_non_bool, sub_non_str, sub_non_tuple, sub_non_list, sub_non_dict, isi_bl, sub_bl_int, sub_bl_bool, sub_bl_str, sub_bl_tuple, sub_bl_list, sub_bl_dict, isi_int, sub_int_int, sub_int_bool, sub_int_str, sub_int_tuple, sub_int_list, sub_int_dict, isi_str, sub_str_int, sub_str_bool, sub_str_str, sub_str_tuple, sub_str_list, sub_str_dict, isi_tup, sub_tup_int, sub_tup_bool, sub_tup_str, sub_tup_tuple, sub_tup_list, sub_tup_dict, isi_lst, sub_lst_int, sub_lst_bool, sub_lst_str, sub_lst_tuple, sub_lst_list, sub_lst_dict, isi_dct, sub_dct_int, sub_dct_bool, sub_dct_str, sub_dct_tuple, sub_dct_list, sub_dct_dict, List.any_cons, List.any_nil, Bool.or_false, Bool.or_true, Bool.false_or, Bool.true_or, wR_addT, wR_addL, wO_star1, wR_inK, wR_inKI, wR_ixK, wR_ixKI, lookK_hit, lookK_nil, Option.isSome_some, Option.isSome_none, seqF_tup, seqF_lst, seqF_scr, sz0, sz1, sz2, sz3, sz4, sz5, sz6, sz7, sz8, sz9, sz10, sz11, sz12, sz13, sz14, sz15, sz16, startE, isN, List.length_cons, List.length_nil, List.map_cons, List.map_nil, List.cons_append, List.nil_append, List.getElem?_cons_zero, List.getElem?_cons_succ, List.set_cons_zero, List.set_cons_succ, List.reduceReplicate, Nat.reduceAdd, Nat.reduceSub, Nat.zero_add, Option.map_some, decide_eq_true_eq, Bool.false_eq_true, Bool.not_true, Bool.not_false, if_false, if_true, true_and, and_true, wR_meth, ib, onIns_some, l1, l2, l3, n1, n2, n3, atI_one, atI_two, eq_wR (v1 _), eq_wR (v0 _), eq_wR (barsg_eq hp _ hgr (b := p.w k 3) (by simpa using w1)), eq_wR (barsk_eq hp _ hon (b := p.w k 2) (by simpa using w0))]
  rcases e1 with e1 | e1 <;> rcases e0 with e0 | e0 <;> simp [e1, e0, wR_ok, wR_stuck, wR_exc, wR_bind, wR_var, wR_c, wR_1, wR_2, wR_nilA, wR_consA, wR_ite, wR_tup, wR_lst, wR_cellL, wR_asB, wR_test, wR_andT, wR_orT, wR_notT, onB_bl, wR_andV, wR_orV, wR_notV, wR_if, wR_call, wR_chain, wR_slice, wR_noPart, wR_part, wR_okO, wS_next, wS_fNext, wS_seq, wS_ret, wS_retN, wS_expr, wS_asg, wO_set, wO_some, wO_nils, wO_conss, wO_tup, wS_if, wS_for, wS_store, wS_par, on1_e, on2_e, onI_e, wR_range1, wR_range2, onSeq_some, wR_seqI, wR_zip, wR_enum, wR_lc, wR_yes, wR_sub, wR_add, wR_mul, wR_mod, wR_div, wR_pow, wR_neg, wR_lt, wR_le, wR_gt, wR_ge, wR_abs, wR_intC, wR_eqI, wR_eqS, wR_eqB, wR_isN, wR_lenL, wR_lenT, wR_listL, wR_listT, wR_tupL, wR_tupT, onO_some, wR_ixL, wR_ixT, sl_tup, sl_lst, sl_scr, isi_non, sub_non_int, sub_non_bool, sub_non_str, sub_non_tuple, sub_non_list, sub_non_dict, isi_bl, sub_bl_int, sub_bl_bool, sub_bl_str, sub_bl_tuple, sub_bl_list, sub_bl_dict, isi_int, sub_int_int, sub_int_bool, sub_int_str, sub_int_tuple, sub_int_list, sub_int_dict, isi_str, sub_str_int, sub_str_bool, sub_str_str, sub_str_tuple, sub_str_list, sub_str_dict, isi_tup, sub_tup_int, sub_tup_bool, sub_tup_str, sub_tup_tuple, sub_tup_list, sub_tup_dict, isi_lst, sub_lst_int, sub_lst_bool, sub_lst_str, sub_lst_tuple, sub_lst_list, sub_lst_dict, isi_dct, sub_dct_int, sub_dct_bool, sub_dct_str, sub_dct_tuple, sub_dct_list, sub_dct_dict, List.any_cons, List.any_nil, Bool.or_false, Bool.or_true, Bool.false_or, Bool.true_or, wR_addT, wR_addL, wO_star1, wR_inK, wR_inKI, wR_ixK, wR_ixKI, lookK_hit, lookK_nil, Option.isSome_some, Option.isSome_none, seqF_tup, seqF_lst, seqF_scr, sz0, sz1, sz2, sz3, sz4, sz5, sz6, sz7, sz8, sz9, sz10, sz11, sz12, sz13, sz14, sz15, sz16, startE, isN, List.length_cons, List.length_nil, List.map_cons, List.map_nil, List.cons_append, List.nil_append, List.getElem?_cons_zero, List.getElem?_cons_succ, List.set_cons_zero, List.set_cons_succ, List.reduceReplicate, Nat.reduceAdd, Nat.reduceSub, Nat.zero_add, Option.map_some, decide_eq_true_eq, Bool.false_eq_true, Bool.not_true, Bool.not_false, if_false, if_true, true_and, and_true, wR_meth, ib, onIns_some, l1, l2, l3, n1, n2, n3, atI_one, atI_two, eq_wR (v0 _), eq_wR (barsk_eq hp _ hon (b := p.w k 2) (by simpa using w0))]
end
end FL

/-! PU: parts read -/
namespace FL
open PySem PySem.Spec PyProof.Rows L2 FR
theorem parts_seq (p : Pt) : seqF p.partsD = some [tabD .lst .lst p.keys, tabD .lst .lst p.gaps, prsD .lst p.splits, prsD .lst p.get, prsD .lst p.walk, prsD .lst p.put, prsD .lst p.strike] := rfl
section
variable {p : Pt} {t : List (List Int)} {g : G} {Q : D → G → Prop} {X : Exn → G → Prop}
theorem ip0 : wR (dIx p.partsD (.int 0) g) Q X = Q (tabD .lst .lst p.keys) g := wR_ixL
theorem ip1 : wR (dIx p.partsD (.int 1) g) Q X = Q (tabD .lst .lst p.gaps) g := wR_ixL
theorem ip2 : wR (dIx p.partsD (.int 2) g) Q X = Q (prsD .lst p.splits) g := wR_ixL
theorem ip3 : wR (dIx p.partsD (.int 3) g) Q X = Q (prsD .lst p.get) g := wR_ixL
theorem ip4 : wR (dIx p.partsD (.int 4) g) Q X = Q (prsD .lst p.walk) g := wR_ixL
theorem ip5 : wR (dIx p.partsD (.int 5) g) Q X = Q (prsD .lst p.put) g := wR_ixL
theorem ip6 : wR (dIx p.partsD (.int 6) g) Q X = Q (prsD .lst p.strike) g := wR_ixL
theorem lenTab {o ρ : List D → D} (ho : Sqn o) : wR (dLen [tabD o ρ t] g) Q X = Q (.int t.length) g := by
  have h : Sq (tabD o ρ t) (t.map (rowD ρ)) := ho.h _
  rw [wR_lenQ h, List.length_map]
theorem lenPrs {o : List D → D} {ps : List Pr} (ho : Sqn o) : wR (dLen [prsD o ps] g) Q X = Q (.int ps.length) g := by
  have h : Sq (prsD o ps) (ps.map pairD) := ho.h _
  rw [wR_lenQ h, List.length_map]
end
theorem dcast {a b : Nat} : decide ((a : Int) = (b : Int)) = decide (a = b) := by
  by_cases h : a = b
  · simp [h]
  · have h2 : ¬ (a : Int) = b := by omega
    simp [h, h2]
end FL

/-! PCl: the law's own kinds, wishes, what is free -/
namespace FL
open PySem PySem.Spec PyProof.Rows L2 FR
theorem kinds_eq (g : G) : F__law_kinds [] g = .ok (.lst (kindsL.map D.str)) g := by
  refine wR_eq ?_
  unfold F__law_kinds b__law_kinds
  simp -implicitDefEqProofs only [wR_body, wR_ok, wR_stuck, wR_exc, wR_bind, wR_var, wR_c, wR_1, wR_2, wR_nilA, wR_consA, wR_ite, wR_tup, wR_lst, wR_cellL, wR_asB, wR_test, wR_andT, wR_orT, wR_notT, onB_bl, wR_andV, wR_orV, wR_notV, wR_if, wR_call, wR_chain, wR_slice, wR_noPart, wR_part, wR_okO, wS_next, wS_fNext, wS_seq, wS_ret, wS_retN, wS_expr, wS_asg, wO_set, wO_some, wO_nils, wO_conss, wO_tup, wS_if, wS_for, wS_store, wS_par, on1_e, on2_e, onI_e, wR_range1, wR_range2, onSeq_some, wR_seqI, wR_zip, wR_enum, wR_lc, wR_yes, wR_sub, wR_add, wR_mul, wR_mod, wR_div, wR_pow, wR_neg, wR_lt, wR_le, wR_gt, wR_ge, wR_abs, wR_intC, wR_eqI, wR_eqS, wR_eqB, wR_isN, wR_lenL, wR_lenT, wR_listL, wR_listT, wR_tupL, wR_tupT, onO_some, wR_ixL, wR_ixT, sl_tup, sl_lst, sl_scr, isi_non, sub_non_int, sub_non_bool, sub_non_str, sub_non_tuple, sub_non_list, sub_non_dict, isi_bl, sub_bl_int, sub_bl_bool, sub_bl_str, sub_bl_tuple, sub_bl_list, sub_bl_dict, isi_int, sub_int_int, sub_int_bool, sub_int_str, sub_int_tuple, sub_int_list, sub_int_dict, isi_str, sub_str_int, sub_str_bool, sub_str_str, sub_str_tuple, sub_str_list, sub_str_dict, isi_tup, sub_tup_int, sub_tup_bool, sub_tup_str, sub_tup_tuple, sub_tup_list, sub_tup_dict, isi_lst, sub_lst_int, sub_lst_bool, sub_lst_str, sub_lst_tuple, sub_lst_list, sub_lst_dict, isi_dct, sub_dct_int, sub_dct_bool, sub_dct_str, sub_dct_tuple, sub_dct_list, sub_dct_dict, List.any_cons, List.any_nil, Bool.or_false, Bool.or_true, Bool.false_or, Bool.true_or, wR_addT, wR_addL, wO_star1, wR_inK, wR_inKI, wR_ixK, wR_ixKI, lookK_hit, lookK_nil, Option.isSome_some, Option.isSome_none, seqF_tup, seqF_lst, seqF_scr, sz0, sz1, sz2, sz3, sz4, sz5, sz6, sz7, sz8, sz9, sz10, sz11, sz12, sz13, sz14, sz15, sz16, startE, isN, List.length_cons, List.length_nil, List.map_cons, List.map_nil, List.cons_append, List.nil_append, List.getElem?_cons_zero, List.getElem?_cons_succ, List.set_cons_zero, List.set_cons_succ, List.reduceReplicate, Nat.reduceAdd, Nat.reduceSub, Nat.zero_add, Option.map_some, decide_eq_true_eq, Bool.false_eq_true, Bool.not_true, Bool.not_false, if_false, if_true, true_and, and_true]
  rfl
theorem wR_lstM {op : D → D → G → Res D} {fo fe : Env → G → Res D} {env : Env} {g : G} {Q : D → G → Prop} {X : Exn → G → Prop} : wR (fLstM op fo fe env g) Q X = wR (fo env g) (fun a g => onO (lstD g a) fun _ => wR (fe env g) (fun x g => wR (op a x g) Q X) X) X := by
  unfold fLstM
  rw [wR_bind]
  congr 1; funext a g
  cases lstD g a with
  | none => rfl
  | some xs => simp only [wR_bind]; rfl
theorem lstD_lst {xs : List D} {g : G} : lstD g (.lst xs) = some xs := rfl
/-- the place of a kind -/
def kindI (k : Str) : Nat := if k = "get" then 0 else if k = "walk" then 1 else if k = "put" then 2 else 3
theorem index_kind {k : Str} (hk : k ∈ kindsL) {g : G} {Q : D → G → Prop} {X : Exn → G → Prop} : wR (dIndex (.lst (kindsL.map D.str)) (.str k) g) Q X = Q (.int (kindI k)) g := by
  rcases kind_cases hk with rfl | rfl | rfl | rfl <;> rfl
theorem parts_want {p : Pt} {k : Str} (hk : k ∈ kindsL) : atI [tabD .lst .lst p.keys, tabD .lst .lst p.gaps, prsD .lst p.splits, prsD .lst p.get, prsD .lst p.walk, prsD .lst p.put, prsD .lst p.strike] (3 + (kindI k : Nat)) = some (prsD .lst (p.want k)) := by
  rcases kind_cases hk with rfl | rfl | rfl | rfl <;> rfl
section
variable {p : Pt} (hp : p.Ok) {k : Str} (hk : k ∈ kindsL) (g : G)
include hp hk
theorem wish_eq {i : Nat} (hi : i < 4) : F__law_wish [p.partsD, .str k, .int i] g = .ok (.int (p.w k i)) g := by
  obtain ⟨q, h1, _, _⟩ := are_at (hp.wantOk k) hi
  have hw : p.w k i = q.1 := by unfold Pt.w; rw [List.getD_eq_getElem?_getD, h1]; rfl
  have hq : Sq (prsD .lst (p.want k)) ((p.want k).map pairD) := .l
  have hP : ∀ (j : Int) (g : G) (Q : D → G → Prop) (X : Exn → G → Prop), wR (dIx p.partsD (.int j) g) Q X = onO (atI [tabD .lst .lst p.keys, tabD .lst .lst p.gaps, prsD .lst p.splits, prsD .lst p.get, prsD .lst p.walk, prsD .lst p.put, prsD .lst p.strike] j) fun d => Q d g := fun j g Q X => wR_ixL
  refine wR_eq ?_
  unfold F__law_wish b__law_wish
  simp -implicitDefEqProofs only [wR_body, wR_ok, wR_stuck, wR_exc, wR_bind, wR_var, wR_c, wR_1, wR_2, wR_nilA, wR_consA, wR_ite, wR_tup, wR_lst, wR_cellL, wR_asB, wR_test, wR_andT, wR_orT, wR_notT, onB_bl, wR_andV, wR_orV, wR_notV, wR_if, wR_call, wR_chain, wR_slice, wR_noPart, wR_part, wR_okO, wS_next, wS_fNext, wS_seq, wS_ret, wS_retN, wS_expr, wS_asg, wO_set, wO_some, wO_nils, wO_conss, wO_tup, wS_if, wS_for, wS_store, wS_par, on1_e, on2_e, onI_e, wR_range1, wR_range2, onSeq_some, wR_seqI, wR_zip, wR_enum, wR_lc, wR_yes, wR_sub, wR_add, wR_mul, wR_mod, wR_div, wR_pow, wR_neg, wR_lt, wR_le, wR_gt, wR_ge, wR_abs, wR_intC, wR_eqI, wR_eqS, wR_eqB, wR_isN, wR_lenL, wR_lenT, wR_listL, wR_listT, wR_tupL, wR_tupT, onO_some, wR_ixL, wR_ixT, sl_tup, sl_lst, sl_scr, isi_non, sub_non_int, sub_non_bool, sub_non_str, sub_non_tuple, sub_non_list, sub_non_dict, isi_bl, sub_bl_int, sub_bl_bool, sub_bl_str, sub_bl_tuple, sub_bl_list, sub_bl_dict, isi_int, sub_int_int, sub_int_bool, sub_int_str, sub_int_tuple, sub_int_list, sub_int_dict, isi_str, sub_str_int, sub_str_bool, sub_str_str, sub_str_tuple, sub_str_list, sub_str_dict, isi_tup, sub_tup_int, sub_tup_bool, sub_tup_str, sub_tup_tuple, sub_tup_list, sub_tup_dict, isi_lst, sub_lst_int, sub_lst_bool, sub_lst_str, sub_lst_tuple, sub_lst_list, sub_lst_dict, isi_dct, sub_dct_int, sub_dct_bool, sub_dct_str, sub_dct_tuple, sub_dct_list, sub_dct_dict, List.any_cons, List.any_nil, Bool.or_false, Bool.or_true, Bool.false_or, Bool.true_or, wR_addT, wR_addL, wO_star1, wR_inK, wR_inKI, wR_ixK, wR_ixKI, lookK_hit, lookK_nil, Option.isSome_some, Option.isSome_none, seqF_tup, seqF_lst, seqF_scr, sz0, sz1, sz2, sz3, sz4, sz5, sz6, sz7, sz8, sz9, sz10, sz11, sz12, sz13, sz14, sz15, sz16, startE, isN, List.length_cons, List.length_nil, List.map_cons, List.map_nil, List.cons_append, List.nil_append, List.getElem?_cons_zero, List.getElem?_cons_succ, List.set_cons_zero, List.set_cons_succ, List.reduceReplicate, Nat.reduceAdd, Nat.reduceSub, Nat.zero_add, Option.map_some, decide_eq_true_eq, Bool.false_eq_true, Bool.not_true, Bool.not_false, if_false, if_true, true_and, and_true, wR_lstM, eq_wR (kinds_eq _), lstD_lst, index_kind hk, hP, parts_want hk, wR_ixQ hq, atI_nat, List.getElem?_map, h1, pairD, atI_zero, hw]
end
section
variable {p : Pt} (hp : p.Ok) {k : Str} (hk : k ∈ kindsL) {gr on : Int} (hgr : 0 ≤ gr ∧ gr < p.gaps.length) (hon : 0 ≤ on ∧ on < p.keys.length) (g : G)
include hp hk hgr hon
theorem lfree_eq {i : Nat} (hi : i = 0 ∨ i = 2) : F__law_free [p.partsD, .str k, .int i, .int gr, .int on] g = .ok (.bl (p.lets k i gr on)) g := by
  have w0 := hp.w_bd k (i := i) (by omega)
  have w1 := hp.w_bd k (i := i + 1) (by omega)
  have m0 : i % 2 = 0 := by omega
  have m1 : ¬ (i + 1) % 2 = 0 := by omega
  rw [if_pos m0] at w0
  rw [if_neg m1] at w1
  obtain ⟨_, _, k3, _⟩ := tab_sq hp.k1
  obtain ⟨_, _, g3, _⟩ := tab_sq hp.g1
  obtain ⟨r, e1, e2⟩ := ent_at k3 hon w0
  obtain ⟨r2, e3, e4⟩ := ent_at g3 hgr w1
  have q1 : Sq (tabD .lst .lst p.keys) (p.keys.map (rowD .lst)) := .l
  have q2 : Sq (tabD .lst .lst p.gaps) (p.gaps.map (rowD .lst)) := .l
  have q3 : Sq (rowD .lst r) (r.map D.int) := .l
  have q4 : Sq (rowD .lst r2) (r2.map D.int) := .l
  have v0 : ∀ g, F__law_wish [p.partsD, .str k, .int i] g = .ok (.int (p.w k i)) g := fun g => wish_eq hp hk g (by omega)
  have v1 : ∀ g, F__law_wish [p.partsD, .str k, .int ((i : Nat) + 1)] g = .ok (.int (p.w k (i + 1))) g := fun g => wish_eq hp hk g (i := i + 1) (by omega)
  refine wR_eq ?_
  unfold F__law_free b__law_free Pt.lets
  simp -implicitDefEqProofs only [wR_body, wR_ok, wR_stuck, wR_exc, wR_bind, wR_var, wR_c, wR_1, wR_2, wR_nilA, wR_consA, wR_ite, wR_tup, wR_lst, wR_cellL, wR_asB, wR_test, wR_andT, wR_orT, wR_notT, onB_bl, wR_andV, wR_orV, wR_notV, wR_if, wR_call, wR_chain, wR_slice, wR_noPart, wR_part, wR_okO, wS_next, wS_fNext, wS_seq, wS_ret, wS_retN, wS_expr, wS_asg, wO_set, wO_some, wO_nils, wO_conss, wO_tup, wS_if, wS_for, wS_store, wS_par, on1_e, on2_e, onI_e, wR_range1, wR_range2, onSeq_some, wR_seqI, wR_zip, wR_enum, wR_lc, wR_yes, wR_sub, wR_add, wR_mul, wR_mod, wR_div, wR_pow, wR_neg, wR_lt, wR_le, wR_gt, wR_ge, wR_abs, wR_intC, wR_eqI, wR_eqS, wR_eqB, wR_isN, wR_lenL, wR_lenT, wR_listL, wR_listT, wR_tupL, wR_tupT, onO_some, wR_ixL, wR_ixT, sl_tup, sl_lst, sl_scr, isi_non, sub_non_int, sub_non_bool, sub_non_str, sub_non_tuple, sub_non_list, sub_non_dict, isi_bl, sub_bl_int, sub_bl_bool, sub_bl_str, sub_bl_tuple, sub_bl_list, sub_bl_dict, isi_int, sub_int_int, sub_int_bool, sub_int_str, sub_int_tuple, sub_int_list, sub_int_dict, isi_str, sub_str_int, sub_str_bool, sub_str_str, sub_str_tuple, sub_str_list, sub_str_dict, isi_tup, sub_tup_int, sub_tup_bool, sub_tup_str, sub_tup_tuple, sub_tup_list, sub_tup_dict, isi_lst, sub_lst_int, sub_lst_bool, sub_lst_str, sub_lst_tuple, sub_lst_list, sub_lst_dict, isi_dct, sub_dct_int, sub_dct_bool, sub_dct_str, sub_dct_tuple, sub_dct_list, sub_dct_dict, List.any_cons, List.any_nil, Bool.or_false, Bool.or_true, Bool.false_or, Bool.true_or, wR_addT, wR_addL, wO_star1, wR_inK, wR_inKI, wR_ixK, wR_ixKI, lookK_hit, lookK_nil, Option.isSome_some, Option.isSome_none, seqF_tup, seqF_lst, seqF_scr, sz0, sz1, sz2, sz3, sz4, sz5, sz6, sz7, sz8, sz9, sz10, sz11, sz12, sz13, sz14, sz15, sz16, startE, isN, List.length_cons, List.length_nil, List.map_cons, List.map_nil, List.cons_append, List.nil_append, List.getElem?_cons_zero, List.getElem?_cons_succ, List.set_cons_zero, List.set_cons_succ, List.reduceReplicate, Nat.reduceAdd, Nat.reduceSub, Nat.zero_add, Option.map_some, decide_eq_true_eq, Bool.false_eq_true, Bool.not_true, Bool.not_false, if_false, if_true, true_and, and_true, ip0, ip1, wR_ixQ q1, wR_ixQ q2, atI_map' _ e1, atI_map' _ e3, wR_ixQ q3, wR_ixQ q4, eq_wR (v0 _), eq_wR (v1 _), atI_map' _ e2, atI_map' _ e4]
  by_cases h : ent p.keys on (p.w k i) = 0
  · simp -implicitDefEqProofs only [h, decide_true, wR_ok, wR_stuck, wR_exc, wR_bind, wR_var, wR_c, wR_1, wR_2, wR_nilA, wR_consA, wR_ite, wR_tup, wR_lst, wR_cellL, wR_asB, wR_test, wR_andT, wR_orT, wR_notT, onB_bl, wR_andV, wR_orV, wR_notV, wR_if, wR_call, wR_chain, wR_slice, wR_noPart, wR_part, wR_okO, wS_next, wS_fNext, wS_seq, wS_ret, wS_retN, wS_expr, wS_asg, wO_set, wO_some, wO_nils, wO_conss, wO_tup, wS_if, wS_for, wS_store, wS_par, on1_e, on2_e, onI_e, wR_range1, wR_range2, onSeq_some, wR_seqI, wR_zip, wR_enum, wR_lc, wR_yes, wR_sub, wR_add, wR_mul, wR_mod, wR_div, wR_pow, wR_neg, wR_lt, wR_le, wR_gt, wR_ge, wR_abs, wR_intC, wR_eqI, wR_eqS, wR_eqB, wR_isN, wR_lenL, wR_lenT, wR_listL, wR_listT, wR_tupL, wR_tupT, onO_some, wR_ixL, wR_ixT, sl_tup, sl_lst, sl_scr, isi_non, sub_non_int, sub_non_bool, sub_non_str, sub_non_tuple, sub_non_list, sub_non_dict, isi_bl, sub_bl_int, sub_bl_bool, sub_bl_str, sub_bl_tuple, sub_bl_list, sub_bl_dict, isi_int, sub_int_int, sub_int_bool, sub_int_str, sub_int_tuple, sub_int_list, sub_int_dict, isi_str, sub_str_int, sub_str_bool, sub_str_str, sub_str_tuple, sub_str_list, sub_str_dict, isi_tup, sub_tup_int, sub_tup_bool, sub_tup_str, sub_tup_tuple, sub_tup_list, sub_tup_dict, isi_lst, sub_lst_int, sub_lst_bool, sub_lst_str, sub_lst_tuple, sub_lst_list, sub_lst_dict, isi_dct, sub_dct_int, sub_dct_bool, sub_dct_str, sub_dct_tuple, sub_dct_list, sub_dct_dict, List.any_cons, List.any_nil, Bool.or_false, Bool.or_true, Bool.false_or, Bool.true_or, wR_addT, wR_addL, wO_star1, wR_inK, wR_inKI, wR_ixK, wR_ixKI, lookK_hit, lookK_nil, Option.isSome_some, Option.isSome_none, seqF_tup, seqF_lst, seqF_scr, sz0, sz1, sz2, sz3, sz4, sz5, sz6, sz7, sz8, sz9, sz10, sz11, sz12, sz13, sz14, sz15, sz16, startE, isN, List.length_cons, List.length_nil, List.map_cons, List.map_nil, List.cons_append, List.nil_append, List.getElem?_cons_zero, List.getElem?_cons_succ, List.set_cons_zero, List.set_cons_succ, List.reduceReplicate, Nat.reduceAdd, Nat.reduceSub, Nat.zero_add, Option.map_some, decide_eq_true_eq, Bool.false_eq_true, Bool.not_true, Bool.not_false, if_false, if_true, true_and, and_true, ip0, ip1, wR_ixQ q1, wR_ixQ q2, atI_map' _ e1, atI_map' _ e3, wR_ixQ q3, wR_ixQ q4, eq_wR (v0 _), eq_wR (v1 _), atI_map' _ e2, atI_map' _ e4, Bool.true_and]
  · simp -implicitDefEqProofs only [h, decide_false, wR_ok, wR_stuck, wR_exc, wR_bind, wR_var, wR_c, wR_1, wR_2, wR_nilA, wR_consA, wR_ite, wR_tup, wR_lst, wR_cellL, wR_asB, wR_test, wR_andT, wR_orT, wR_notT, onB_bl, wR_andV, wR_orV, wR_notV, wR_if, wR_call, wR_chain, wR_slice, wR_noPart, wR_part, wR_okO, wS_next, wS_fNext, wS_seq, wS_ret, wS_retN, wS_expr, wS_asg, wO_set, wO_some, wO_nils, wO_conss, wO_tup, wS_if, wS_for, wS_store, wS_par, on1_e, on2_e, onI_e, wR_range1, wR_range2, onSeq_some, wR_seqI, wR_zip, wR_enum, wR_lc, wR_yes, wR_sub, wR_add, wR_mul, wR_mod, wR_div, wR_pow, wR_neg, wR_lt, wR_le, wR_gt, wR_ge, wR_abs, wR_intC, wR_eqI, wR_eqS, wR_eqB, wR_isN, wR_lenL, wR_lenT, wR_listL, wR_listT, wR_tupL, wR_tupT, onO_some, wR_ixL, wR_ixT, sl_tup, sl_lst, sl_scr, isi_non, sub_non_int, sub_non_bool, sub_non_str, sub_non_tuple, sub_non_list, sub_non_dict, isi_bl, sub_bl_int, sub_bl_bool, sub_bl_str, sub_bl_tuple, sub_bl_list, sub_bl_dict, isi_int, sub_int_int, sub_int_bool, sub_int_str, sub_int_tuple, sub_int_list, sub_int_dict, isi_str, sub_str_int, sub_str_bool, sub_str_str, sub_str_tuple, sub_str_list, sub_str_dict, isi_tup, sub_tup_int, sub_tup_bool, sub_tup_str, sub_tup_tuple, sub_tup_list, sub_tup_dict, isi_lst, sub_lst_int, sub_lst_bool, sub_lst_str, sub_lst_tuple, sub_lst_list, sub_lst_dict, isi_dct, sub_dct_int, sub_dct_bool, sub_dct_str, sub_dct_tuple, sub_dct_list, sub_dct_dict, List.any_cons, List.any_nil, Bool.or_false, Bool.or_true, Bool.false_or, Bool.true_or, wR_addT, wR_addL, wO_star1, wR_inK, wR_inKI, wR_ixK, wR_ixKI, lookK_hit, lookK_nil, Option.isSome_some, Option.isSome_none, seqF_tup, seqF_lst, seqF_scr, sz0, sz1, sz2, sz3, sz4, sz5, sz6, sz7, sz8, sz9, sz10, sz11, sz12, sz13, sz14, sz15, sz16, startE, isN, List.length_cons, List.length_nil, List.map_cons, List.map_nil, List.cons_append, List.nil_append, List.getElem?_cons_zero, List.getElem?_cons_succ, List.set_cons_zero, List.set_cons_succ, List.reduceReplicate, Nat.reduceAdd, Nat.reduceSub, Nat.zero_add, Option.map_some, decide_eq_true_eq, Bool.false_eq_true, Bool.not_true, Bool.not_false, if_false, if_true, true_and, and_true, Bool.false_and]
end
end FL

/-! PB4: drawn splits, wants, parts are right -/
namespace FL
open PySem PySem.Spec PyProof.Rows L2 FR
def splGood (N : Nat) (ps : List Pr) : Prop := ∀ (i : Nat) (p : Pr), ps[i]? = some p → (0 ≤ p.1 ∧ p.1 < (N : Int)) ∧ (0 ≤ p.2 ∧ p.2 < (N : Int)) ∧ (i = 0 → p.1 = 0 ∧ p.2 = 0) ∧ (0 < i → (ps.getD (i - 1) (0, 0)).1 ≤ p.1 ∧ (ps.getD (i - 1) (0, 0)).2 ≤ p.2)
theorem splGood.snoc {N : Nat} {ps : List Pr} {q : Pr} (h : splGood N ps) (h1 : 0 ≤ q.1 ∧ q.1 < (N : Int)) (h2 : 0 ≤ q.2 ∧ q.2 < (N : Int)) (h3 : ps.length = 0 → q.1 = 0 ∧ q.2 = 0) (h4 : 0 < ps.length → (ps.getD (ps.length - 1) (0, 0)).1 ≤ q.1 ∧ (ps.getD (ps.length - 1) (0, 0)).2 ≤ q.2) : splGood N (ps ++ [q]) := fun i p hp => by
  have gd : ∀ n, n < ps.length → (ps ++ [q]).getD n (0, 0) = ps.getD n (0, 0) := fun n hn => by
    rw [List.getD_eq_getElem?_getD, List.getD_eq_getElem?_getD, List.getElem?_append_left hn]
  by_cases hj : i < ps.length
  · rw [List.getElem?_append_left hj] at hp
    obtain ⟨a, b, c, d⟩ := h i p hp
    exact ⟨a, b, c, fun h0 => by rw [gd _ (by omega)]; exact d h0⟩
  · have hj' : i = ps.length := by
      have := (List.getElem?_eq_some_iff.mp hp).1
      rw [List.length_append, List.length_cons, List.length_nil] at this
      omega
    subst hj'
    have : q = p := by simpa using hp
    subst this
    exact ⟨h1, h2, h3, fun h0 => by rw [gd _ (by omega)]; exact h4 h0⟩
theorem splGood.fall {N : Nat} {ps : List Pr} (h : splGood N ps) : fallS ps 0 ps = none := by
  have main : ∀ (ts : List Pr) (n : Nat), ps.drop n = ts → fallS ps n ts = none := by
    intro ts
    induction ts with
    | nil => intro n _; rfl
    | cons p ts ih =>
      intro n hd
      have hr : ps[n]? = some p := by
        have : (ps.drop n)[0]? = some p := by rw [hd]; rfl
        simpa using this
      have hd2 : ps.drop (n + 1) = ts := by
        have : ps.drop (n + 1) = (ps.drop n).drop 1 := by rw [List.drop_drop]
        rw [this, hd]; rfl
      obtain ⟨_, _, c, d⟩ := h n p hr
      unfold fallS
      have b1 : badS ps n p.1 (ps.getD (n - 1) (0, 0)).1 = false := by
        unfold badS
        by_cases hn : n = 0
        · simp [hn, (c hn).1]
        · have := (d (by omega)).1
          have h2 : ¬ p.1 < (ps.getD (n - 1) (0, 0)).1 := by omega
          simp [hn]
          intro _
          rw [List.getD_eq_getElem?_getD] at this
          exact this
      have b2 : badS ps n p.2 (ps.getD (n - 1) (0, 0)).2 = false := by
        unfold badS
        by_cases hn : n = 0
        · simp [hn, (c hn).2]
        · have := (d (by omega)).2
          simp [hn]
          intro _
          rw [List.getD_eq_getElem?_getD] at this
          exact this
      rw [b1, if_neg Bool.false_ne_true, b2, if_neg Bool.false_ne_true]
      exact ih (n + 1) hd2
  exact main ps 0 rfl
theorem splGood.isSpl {N : Nat} {ps : List Pr} (h : splGood N ps) (hl : ps.length = N) : isSplB N ps = true := by
  unfold isSplB
  simp only [Bool.and_eq_true, decide_eq_true_eq, List.all_eq_true, belB]
  refine ⟨hl, fun p hp => ?_⟩
  obtain ⟨i, hi⟩ := List.mem_iff_getElem?.mp hp
  obtain ⟨a, b, _⟩ := h i p hi
  exact ⟨⟨a.1, a.2⟩, ⟨b.1, b.2⟩⟩
theorem splits_ok (hp : PullS F__law_pull) {k : Nat} {g : G} {Q : D → G → Prop} {X : Exn → G → Prop} (N : Nat) (h1 : 1 ≤ N) (hN : N ≤ 5) (hb : BagAt g k) (hQ : ∀ (ps : List Pr) (c : Cell), BagC c → ps.length = N → splGood N ps → Q (prsD .lst ps) (g.set k c)) : wR (F__law_splits [.ref k, .int N] g) Q X := by
  have hset := hb.cell_set
  have hbc0 := hb.cell_ok
  generalize hb.cell = c0 at hset hbc0
  unfold F__law_splits b__law_splits
  rw [wR_body]
  refine ⟨rfl, ?_⟩
  have hsz : (1024 : Nat) ≤ sizeLine := by decide
  simp only [wR_ok, wR_stuck, wR_exc, wR_bind, wR_var, wR_c, wR_1, wR_2, wR_nilA, wR_consA, wR_ite, wR_tup, wR_lst, wR_cellL, wR_asB, wR_test, wR_andT, wR_orT, wR_notT, onB_bl, wR_andV, wR_orV, wR_notV, wR_if, wR_call, wR_chain, wR_slice, wR_noPart, wR_part, wR_okO, wS_next, wS_fNext, wS_seq, wS_ret, wS_retN, wS_expr, wS_asg, wO_set, wO_some, wO_nils, wO_conss, wO_tup, wS_if, wS_for, wS_store, wS_par, on1_e, on2_e, onI_e, wR_range1, wR_range2, onSeq_some, wR_seqI, wR_zip, wR_enum, wR_lc, wR_yes, wR_sub, wR_add, wR_mul, wR_mod, wR_div, wR_pow, wR_neg, wR_lt, wR_le, wR_gt, wR_ge, wR_abs, wR_intC, wR_eqI, wR_eqS, wR_eqB, wR_isN, wR_lenL, wR_lenT, wR_listL, wR_listT, wR_tupL, wR_tupT, onO_some, wR_ixL, wR_ixT, sl_tup, sl_lst, sl_scr, isi_non, sub_non_int, sub_non_bool, sub_non_str, sub_non_tuple, sub_non_list, sub_non_dict, isi_bl, sub_bl_int, sub_bl_bool, sub_bl_str, sub_bl_tuple, sub_bl_list, sub_bl_dict, isi_int, sub_int_int, sub_int_bool, sub_int_str, sub_int_tuple, sub_int_list, sub_int_dict, isi_str, sub_str_int, sub_str_bool, sub_str_str, sub_str_tuple, sub_str_list, sub_str_dict, isi_tup, sub_tup_int, sub_tup_bool, sub_tup_str, sub_tup_tuple, sub_tup_list, sub_tup_dict, isi_lst, sub_lst_int, sub_lst_bool, sub_lst_str, sub_lst_tuple, sub_lst_list, sub_lst_dict, isi_dct, sub_dct_int, sub_dct_bool, sub_dct_str, sub_dct_tuple, sub_dct_list, sub_dct_dict, List.any_cons, List.any_nil, Bool.or_false, Bool.or_true, Bool.false_or, Bool.true_or, wR_addT, wR_addL, wO_star1, wR_inK, wR_inKI, wR_ixK, wR_ixKI, lookK_hit, lookK_nil, Option.isSome_some, Option.isSome_none, seqF_tup, seqF_lst, seqF_scr, sz0, sz1, sz2, sz3, sz4, sz5, sz6, sz7, sz8, sz9, sz10, sz11, sz12, sz13, sz14, sz15, sz16, startE, isN, List.length_cons, List.length_nil, List.map_cons, List.map_nil, List.cons_append, List.nil_append, List.getElem?_cons_zero, List.getElem?_cons_succ, List.set_cons_zero, List.set_cons_succ, List.reduceReplicate, Nat.reduceAdd, Nat.reduceSub, Nat.zero_add, Option.map_some, decide_eq_true_eq, Bool.false_eq_true, Bool.not_true, Bool.not_false, if_false, if_true, true_and, and_true, wS_setL]
  refine ⟨by omega, by omega, ?_⟩
  have hr : ((N : Int) - 1).toNat = N - 1 := by omega
  rw [hr]
  refine wS_range (fun i env g' => ∃ ps c s3 s4 s5 s6, env = [.val (.ref k), .val (.int N), .lst (ps.map pairD), s3, s4, s5, s6] ∧ g' = g.set k c ∧ BagC c ∧ ps.length = i + 1 ∧ splGood N ps) 1 (N - 1) ⟨[(0, 0)], c0, _, _, _, _, rfl, hset.symm, hbc0, rfl, fun i p hi => ?_⟩ ?_ ?_
  · cases i with
    | zero =>
      have : ((0 : Int), (0 : Int)) = p := by simpa using hi
      subst this
      exact ⟨⟨Int.le_refl _, by show (0 : Int) < N; omega⟩, ⟨Int.le_refl _, by show (0 : Int) < N; omega⟩, fun _ => ⟨rfl, rfl⟩, fun h => absurd h (by omega)⟩
    | succ i => simp at hi
  · rintro i env g' hi ⟨ps, c, s3, s4, s5, s6, rfl, rfl, hc, hpl, hps⟩
    have hb1 : BagAt (g.set k c) k := hb.set hc
    obtain ⟨q, hq⟩ : ∃ q, ps[i]? = some q := ⟨ps[i]'(by omega), List.getElem?_eq_getElem (by omega)⟩
    obtain ⟨qa, qb, _, _⟩ := hps _ _ hq
    have e1 : (1 : Int) + (i : Nat) - 1 = (i : Nat) := by omega
    have fin : ∀ (a b : Int) (c : Cell) (s3 s4 s5 s6 : Sl), BagC c → (q.1 ≤ a ∧ a < N) → (q.2 ≤ b ∧ b < N) → ∃ ps' c' s3' s4' s5' s6', [Sl.val (.ref k), .val (.int N), .lst (ps.map pairD ++ [.tup [.int a, .int b]]), s3, s4, s5, s6] = [.val (.ref k), .val (.int N), .lst (ps'.map pairD), s3', s4', s5', s6'] ∧ g.set k c = g.set k c' ∧ BagC c' ∧ ps'.length = i + 1 + 1 ∧ splGood N ps' := fun a b c s3 s4 s5 s6 hc ha hb => by
      refine ⟨ps ++ [(a, b)], c, _, _, _, _, by rw [List.map_append]; rfl, rfl, hc, by simp [hpl], hps.snoc ⟨?_, ha.2⟩ ⟨?_, hb.2⟩ (fun h => absurd h (by omega)) fun _ => ?_⟩
      · show (0 : Int) ≤ a; omega
      · show (0 : Int) ≤ b; omega
      · rw [hpl, Nat.add_sub_cancel, List.getD_eq_getElem?_getD, hq]
        exact ⟨ha.1, hb.1⟩
    have hi2 : (1 : Int) + (i : Nat) < N := by omega
    simp only [wR_ok, wR_stuck, wR_exc, wR_bind, wR_var, wR_c, wR_1, wR_2, wR_nilA, wR_consA, wR_ite, wR_tup, wR_lst, wR_cellL, wR_asB, wR_test, wR_andT, wR_orT, wR_notT, onB_bl, wR_andV, wR_orV, wR_notV, wR_if, wR_call, wR_chain, wR_slice, wR_noPart, wR_part, wR_okO, wS_next, wS_fNext, wS_seq, wS_ret, wS_retN, wS_expr, wS_asg, wO_set, wO_some, wO_nils, wO_conss, wO_tup, wS_if, wS_for, wS_store, wS_par, on1_e, on2_e, onI_e, wR_range1, wR_range2, onSeq_some, wR_seqI, wR_zip, wR_enum, wR_lc, wR_yes, wR_sub, wR_add, wR_mul, wR_mod, wR_div, wR_pow, wR_neg, wR_lt, wR_le, wR_gt, wR_ge, wR_abs, wR_intC, wR_eqI, wR_eqS, wR_eqB, wR_isN, wR_lenL, wR_lenT, wR_listL, wR_listT, wR_tupL, wR_tupT, onO_some, wR_ixL, wR_ixT, sl_tup, sl_lst, sl_scr, isi_non, sub_non_int, sub_non_bool, sub_non_str, sub_non_tuple, sub_non_list, sub_non_dict, isi_bl, sub_bl_int, sub_bl_bool, sub_bl_str, sub_bl_tuple, sub_bl_list, sub_bl_dict, isi_int, sub_int_int, sub_int_bool, sub_int_str, sub_int_tuple, sub_int_list, sub_int_dict, isi_str, sub_str_int, sub_str_bool, sub_str_str, sub_str_tuple, sub_str_list, sub_str_dict, isi_tup, sub_tup_int, sub_tup_bool, sub_tup_str, sub_tup_tuple, sub_tup_list, sub_tup_dict, isi_lst, sub_lst_int, sub_lst_bool, sub_lst_str, sub_lst_tuple, sub_lst_list, sub_lst_dict, isi_dct, sub_dct_int, sub_dct_bool, sub_dct_str, sub_dct_tuple, sub_dct_list, sub_dct_dict, List.any_cons, List.any_nil, Bool.or_false, Bool.or_true, Bool.false_or, Bool.true_or, wR_addT, wR_addL, wO_star1, wR_inK, wR_inKI, wR_ixK, wR_ixKI, lookK_hit, lookK_nil, Option.isSome_some, Option.isSome_none, seqF_tup, seqF_lst, seqF_scr, sz0, sz1, sz2, sz3, sz4, sz5, sz6, sz7, sz8, sz9, sz10, sz11, sz12, sz13, sz14, sz15, sz16, startE, isN, List.length_cons, List.length_nil, List.map_cons, List.map_nil, List.cons_append, List.nil_append, List.getElem?_cons_zero, List.getElem?_cons_succ, List.set_cons_zero, List.set_cons_succ, List.reduceReplicate, Nat.reduceAdd, Nat.reduceSub, Nat.zero_add, Option.map_some, decide_eq_true_eq, Bool.false_eq_true, Bool.not_true, Bool.not_false, if_false, if_true, true_and, and_true, wR_ixO, onL_e, e1, atI_nat, List.getElem?_map, hq, pairD]
    refine hp k 4 _ _ _ hb1 (by decide) (by decide) fun z c2 hc2 z0 z3 => ?_
    have hb2 := hb1.set hc2
    rw [List.set_set] at hb2 ⊢
    simp only [wR_ok, wR_stuck, wR_exc, wR_bind, wR_var, wR_c, wR_1, wR_2, wR_nilA, wR_consA, wR_ite, wR_tup, wR_lst, wR_cellL, wR_asB, wR_test, wR_andT, wR_orT, wR_notT, onB_bl, wR_andV, wR_orV, wR_notV, wR_if, wR_call, wR_chain, wR_slice, wR_noPart, wR_part, wR_okO, wS_next, wS_fNext, wS_seq, wS_ret, wS_retN, wS_expr, wS_asg, wO_set, wO_some, wO_nils, wO_conss, wO_tup, wS_if, wS_for, wS_store, wS_par, on1_e, on2_e, onI_e, wR_range1, wR_range2, onSeq_some, wR_seqI, wR_zip, wR_enum, wR_lc, wR_yes, wR_sub, wR_add, wR_mul, wR_mod, wR_div, wR_pow, wR_neg, wR_lt, wR_le, wR_gt, wR_ge, wR_abs, wR_intC, wR_eqI, wR_eqS, wR_eqB, wR_isN, wR_lenL, wR_lenT, wR_listL, wR_listT, wR_tupL, wR_tupT, onO_some, wR_ixL, wR_ixT, sl_tup, sl_lst, sl_scr, isi_non, sub_non_int, sub_non_bool, sub_non_str, sub_non_tuple, sub_non_list, sub_non_dict, isi_bl, sub_bl_int, sub_bl_bool, sub_bl_str, sub_bl_tuple, sub_bl_list, sub_bl_dict, isi_int, sub_int_int, sub_int_bool, sub_int_str, sub_int_tuple, sub_int_list, sub_int_dict, isi_str, sub_str_int, sub_str_bool, sub_str_str, sub_str_tuple, sub_str_list, sub_str_dict, isi_tup, sub_tup_int, sub_tup_bool, sub_tup_str, sub_tup_tuple, sub_tup_list, sub_tup_dict, isi_lst, sub_lst_int, sub_lst_bool, sub_lst_str, sub_lst_tuple, sub_lst_list, sub_lst_dict, isi_dct, sub_dct_int, sub_dct_bool, sub_dct_str, sub_dct_tuple, sub_dct_list, sub_dct_dict, List.any_cons, List.any_nil, Bool.or_false, Bool.or_true, Bool.false_or, Bool.true_or, wR_addT, wR_addL, wO_star1, wR_inK, wR_inKI, wR_ixK, wR_ixKI, lookK_hit, lookK_nil, Option.isSome_some, Option.isSome_none, seqF_tup, seqF_lst, seqF_scr, sz0, sz1, sz2, sz3, sz4, sz5, sz6, sz7, sz8, sz9, sz10, sz11, sz12, sz13, sz14, sz15, sz16, startE, isN, List.length_cons, List.length_nil, List.map_cons, List.map_nil, List.cons_append, List.nil_append, List.getElem?_cons_zero, List.getElem?_cons_succ, List.set_cons_zero, List.set_cons_succ, List.reduceReplicate, Nat.reduceAdd, Nat.reduceSub, Nat.zero_add, Option.map_some, decide_eq_true_eq, Bool.false_eq_true, Bool.not_true, Bool.not_false, if_false, if_true, true_and, and_true]
    by_cases hz0 : z = 0
    · subst hz0
      simp (decide := true) only [wR_ok, wR_stuck, wR_exc, wR_bind, wR_var, wR_c, wR_1, wR_2, wR_nilA, wR_consA, wR_ite, wR_tup, wR_lst, wR_cellL, wR_asB, wR_test, wR_andT, wR_orT, wR_notT, onB_bl, wR_andV, wR_orV, wR_notV, wR_if, wR_call, wR_chain, wR_slice, wR_noPart, wR_part, wR_okO, wS_next, wS_fNext, wS_seq, wS_ret, wS_retN, wS_expr, wS_asg, wO_set, wO_some, wO_nils, wO_conss, wO_tup, wS_if, wS_for, wS_store, wS_par, on1_e, on2_e, onI_e, wR_range1, wR_range2, onSeq_some, wR_seqI, wR_zip, wR_enum, wR_lc, wR_yes, wR_sub, wR_add, wR_mul, wR_mod, wR_div, wR_pow, wR_neg, wR_lt, wR_le, wR_gt, wR_ge, wR_abs, wR_intC, wR_eqI, wR_eqS, wR_eqB, wR_isN, wR_lenL, wR_lenT, wR_listL, wR_listT, wR_tupL, wR_tupT, onO_some, wR_ixL, wR_ixT, sl_tup, sl_lst, sl_scr, isi_non, sub_non_int, sub_non_bool, sub_non_str, sub_non_tuple, sub_non_list, sub_non_dict, isi_bl, sub_bl_int, sub_bl_bool, sub_bl_str, sub_bl_tuple, sub_bl_list, sub_bl_dict, isi_int, sub_int_int, sub_int_bool, sub_int_str, sub_int_tuple, sub_int_list, sub_int_dict, isi_str, sub_str_int, sub_str_bool, sub_str_str, sub_str_tuple, sub_str_list, sub_str_dict, isi_tup, sub_tup_int, sub_tup_bool, sub_tup_str, sub_tup_tuple, sub_tup_list, sub_tup_dict, isi_lst, sub_lst_int, sub_lst_bool, sub_lst_str, sub_lst_tuple, sub_lst_list, sub_lst_dict, isi_dct, sub_dct_int, sub_dct_bool, sub_dct_str, sub_dct_tuple, sub_dct_list, sub_dct_dict, List.any_cons, List.any_nil, Bool.or_false, Bool.or_true, Bool.false_or, Bool.true_or, wR_addT, wR_addL, wO_star1, wR_inK, wR_inKI, wR_ixK, wR_ixKI, lookK_hit, lookK_nil, Option.isSome_some, Option.isSome_none, seqF_tup, seqF_lst, seqF_scr, sz0, sz1, sz2, sz3, sz4, sz5, sz6, sz7, sz8, sz9, sz10, sz11, sz12, sz13, sz14, sz15, sz16, startE, isN, List.length_cons, List.length_nil, List.map_cons, List.map_nil, List.cons_append, List.nil_append, List.getElem?_cons_zero, List.getElem?_cons_succ, List.set_cons_zero, List.set_cons_succ, List.reduceReplicate, Nat.reduceAdd, Nat.reduceSub, Nat.zero_add, Option.map_some, decide_eq_true_eq, Bool.false_eq_true, Bool.not_true, Bool.not_false, if_false, if_true, true_and, and_true, wR_max2, wS_appO, onL_e, List.length_map]
      exact ⟨by omega, fin _ _ _ _ _ _ _ hc2 ⟨by omega, by omega⟩ ⟨by omega, by omega⟩⟩
    by_cases hz1 : z = 1
    · subst hz1
      simp (decide := true) only [wR_ok, wR_stuck, wR_exc, wR_bind, wR_var, wR_c, wR_1, wR_2, wR_nilA, wR_consA, wR_ite, wR_tup, wR_lst, wR_cellL, wR_asB, wR_test, wR_andT, wR_orT, wR_notT, onB_bl, wR_andV, wR_orV, wR_notV, wR_if, wR_call, wR_chain, wR_slice, wR_noPart, wR_part, wR_okO, wS_next, wS_fNext, wS_seq, wS_ret, wS_retN, wS_expr, wS_asg, wO_set, wO_some, wO_nils, wO_conss, wO_tup, wS_if, wS_for, wS_store, wS_par, on1_e, on2_e, onI_e, wR_range1, wR_range2, onSeq_some, wR_seqI, wR_zip, wR_enum, wR_lc, wR_yes, wR_sub, wR_add, wR_mul, wR_mod, wR_div, wR_pow, wR_neg, wR_lt, wR_le, wR_gt, wR_ge, wR_abs, wR_intC, wR_eqI, wR_eqS, wR_eqB, wR_isN, wR_lenL, wR_lenT, wR_listL, wR_listT, wR_tupL, wR_tupT, onO_some, wR_ixL, wR_ixT, sl_tup, sl_lst, sl_scr, isi_non, sub_non_int, sub_non_bool, sub_non_str, sub_non_tuple, sub_non_list, sub_non_dict, isi_bl, sub_bl_int, sub_bl_bool, sub_bl_str, sub_bl_tuple, sub_bl_list, sub_bl_dict, isi_int, sub_int_int, sub_int_bool, sub_int_str, sub_int_tuple, sub_int_list, sub_int_dict, isi_str, sub_str_int, sub_str_bool, sub_str_str, sub_str_tuple, sub_str_list, sub_str_dict, isi_tup, sub_tup_int, sub_tup_bool, sub_tup_str, sub_tup_tuple, sub_tup_list, sub_tup_dict, isi_lst, sub_lst_int, sub_lst_bool, sub_lst_str, sub_lst_tuple, sub_lst_list, sub_lst_dict, isi_dct, sub_dct_int, sub_dct_bool, sub_dct_str, sub_dct_tuple, sub_dct_list, sub_dct_dict, List.any_cons, List.any_nil, Bool.or_false, Bool.or_true, Bool.false_or, Bool.true_or, wR_addT, wR_addL, wO_star1, wR_inK, wR_inKI, wR_ixK, wR_ixKI, lookK_hit, lookK_nil, Option.isSome_some, Option.isSome_none, seqF_tup, seqF_lst, seqF_scr, sz0, sz1, sz2, sz3, sz4, sz5, sz6, sz7, sz8, sz9, sz10, sz11, sz12, sz13, sz14, sz15, sz16, startE, isN, List.length_cons, List.length_nil, List.map_cons, List.map_nil, List.cons_append, List.nil_append, List.getElem?_cons_zero, List.getElem?_cons_succ, List.set_cons_zero, List.set_cons_succ, List.reduceReplicate, Nat.reduceAdd, Nat.reduceSub, Nat.zero_add, Option.map_some, decide_eq_true_eq, Bool.false_eq_true, Bool.not_true, Bool.not_false, if_false, if_true, true_and, and_true, wR_max2, wS_appO, onL_e, List.length_map]
      exact ⟨by omega, fin _ _ _ _ _ _ _ hc2 ⟨by omega, by omega⟩ ⟨by omega, by omega⟩⟩
    by_cases hz2 : z = 2
    · subst hz2
      simp (decide := true) only [wR_ok, wR_stuck, wR_exc, wR_bind, wR_var, wR_c, wR_1, wR_2, wR_nilA, wR_consA, wR_ite, wR_tup, wR_lst, wR_cellL, wR_asB, wR_test, wR_andT, wR_orT, wR_notT, onB_bl, wR_andV, wR_orV, wR_notV, wR_if, wR_call, wR_chain, wR_slice, wR_noPart, wR_part, wR_okO, wS_next, wS_fNext, wS_seq, wS_ret, wS_retN, wS_expr, wS_asg, wO_set, wO_some, wO_nils, wO_conss, wO_tup, wS_if, wS_for, wS_store, wS_par, on1_e, on2_e, onI_e, wR_range1, wR_range2, onSeq_some, wR_seqI, wR_zip, wR_enum, wR_lc, wR_yes, wR_sub, wR_add, wR_mul, wR_mod, wR_div, wR_pow, wR_neg, wR_lt, wR_le, wR_gt, wR_ge, wR_abs, wR_intC, wR_eqI, wR_eqS, wR_eqB, wR_isN, wR_lenL, wR_lenT, wR_listL, wR_listT, wR_tupL, wR_tupT, onO_some, wR_ixL, wR_ixT, sl_tup, sl_lst, sl_scr, isi_non, sub_non_int, sub_non_bool, sub_non_str, sub_non_tuple, sub_non_list, sub_non_dict, isi_bl, sub_bl_int, sub_bl_bool, sub_bl_str, sub_bl_tuple, sub_bl_list, sub_bl_dict, isi_int, sub_int_int, sub_int_bool, sub_int_str, sub_int_tuple, sub_int_list, sub_int_dict, isi_str, sub_str_int, sub_str_bool, sub_str_str, sub_str_tuple, sub_str_list, sub_str_dict, isi_tup, sub_tup_int, sub_tup_bool, sub_tup_str, sub_tup_tuple, sub_tup_list, sub_tup_dict, isi_lst, sub_lst_int, sub_lst_bool, sub_lst_str, sub_lst_tuple, sub_lst_list, sub_lst_dict, isi_dct, sub_dct_int, sub_dct_bool, sub_dct_str, sub_dct_tuple, sub_dct_list, sub_dct_dict, List.any_cons, List.any_nil, Bool.or_false, Bool.or_true, Bool.false_or, Bool.true_or, wR_addT, wR_addL, wO_star1, wR_inK, wR_inKI, wR_ixK, wR_ixKI, lookK_hit, lookK_nil, Option.isSome_some, Option.isSome_none, seqF_tup, seqF_lst, seqF_scr, sz0, sz1, sz2, sz3, sz4, sz5, sz6, sz7, sz8, sz9, sz10, sz11, sz12, sz13, sz14, sz15, sz16, startE, isN, List.length_cons, List.length_nil, List.map_cons, List.map_nil, List.cons_append, List.nil_append, List.getElem?_cons_zero, List.getElem?_cons_succ, List.set_cons_zero, List.set_cons_succ, List.reduceReplicate, Nat.reduceAdd, Nat.reduceSub, Nat.zero_add, Option.map_some, decide_eq_true_eq, Bool.false_eq_true, Bool.not_true, Bool.not_false, if_false, if_true, true_and, and_true, wR_max2, wS_appO, onL_e, List.length_map]
      exact ⟨by omega, fin _ _ _ _ _ _ _ hc2 ⟨by omega, by omega⟩ ⟨by omega, by omega⟩⟩
    have hz3 : z = 3 := by omega
    subst hz3
    simp (decide := true) only [wR_ok, wR_stuck, wR_exc, wR_bind, wR_var, wR_c, wR_1, wR_2, wR_nilA, wR_consA, wR_ite, wR_tup, wR_lst, wR_cellL, wR_asB, wR_test, wR_andT, wR_orT, wR_notT, onB_bl, wR_andV, wR_orV, wR_notV, wR_if, wR_call, wR_chain, wR_slice, wR_noPart, wR_part, wR_okO, wS_next, wS_fNext, wS_seq, wS_ret, wS_retN, wS_expr, wS_asg, wO_set, wO_some, wO_nils, wO_conss, wO_tup, wS_if, wS_for, wS_store, wS_par, on1_e, on2_e, onI_e, wR_range1, wR_range2, onSeq_some, wR_seqI, wR_zip, wR_enum, wR_lc, wR_yes, wR_sub, wR_add, wR_mul, wR_mod, wR_div, wR_pow, wR_neg, wR_lt, wR_le, wR_gt, wR_ge, wR_abs, wR_intC, wR_eqI, wR_eqS, wR_eqB, wR_isN, wR_lenL, wR_lenT, wR_listL, wR_listT, wR_tupL, wR_tupT, onO_some, wR_ixL, wR_ixT, sl_tup, sl_lst, sl_scr, isi_non, sub_non_int, sub_non_bool, sub_non_str, sub_non_tuple, sub_non_list, sub_non_dict, isi_bl, sub_bl_int, sub_bl_bool, sub_bl_str, sub_bl_tuple, sub_bl_list, sub_bl_dict, isi_int, sub_int_int, sub_int_bool, sub_int_str, sub_int_tuple, sub_int_list, sub_int_dict, isi_str, sub_str_int, sub_str_bool, sub_str_str, sub_str_tuple, sub_str_list, sub_str_dict, isi_tup, sub_tup_int, sub_tup_bool, sub_tup_str, sub_tup_tuple, sub_tup_list, sub_tup_dict, isi_lst, sub_lst_int, sub_lst_bool, sub_lst_str, sub_lst_tuple, sub_lst_list, sub_lst_dict, isi_dct, sub_dct_int, sub_dct_bool, sub_dct_str, sub_dct_tuple, sub_dct_list, sub_dct_dict, List.any_cons, List.any_nil, Bool.or_false, Bool.or_true, Bool.false_or, Bool.true_or, wR_addT, wR_addL, wO_star1, wR_inK, wR_inKI, wR_ixK, wR_ixKI, lookK_hit, lookK_nil, Option.isSome_some, Option.isSome_none, seqF_tup, seqF_lst, seqF_scr, sz0, sz1, sz2, sz3, sz4, sz5, sz6, sz7, sz8, sz9, sz10, sz11, sz12, sz13, sz14, sz15, sz16, startE, isN, List.length_cons, List.length_nil, List.map_cons, List.map_nil, List.cons_append, List.nil_append, List.getElem?_cons_zero, List.getElem?_cons_succ, List.set_cons_zero, List.set_cons_succ, List.reduceReplicate, Nat.reduceAdd, Nat.reduceSub, Nat.zero_add, Option.map_some, decide_eq_true_eq, Bool.false_eq_true, Bool.not_true, Bool.not_false, if_false, if_true, true_and, and_true, wR_max2, wS_appO, onL_e, List.length_map]
    refine hp k _ _ _ _ hb2 (by omega) (by omega) fun y c3 hc3 y0 y1 => ?_
    have hb3 := hb2.set hc3
    rw [List.set_set] at hb3 ⊢
    simp only [wR_ok, wR_stuck, wR_exc, wR_bind, wR_var, wR_c, wR_1, wR_2, wR_nilA, wR_consA, wR_ite, wR_tup, wR_lst, wR_cellL, wR_asB, wR_test, wR_andT, wR_orT, wR_notT, onB_bl, wR_andV, wR_orV, wR_notV, wR_if, wR_call, wR_chain, wR_slice, wR_noPart, wR_part, wR_okO, wS_next, wS_fNext, wS_seq, wS_ret, wS_retN, wS_expr, wS_asg, wO_set, wO_some, wO_nils, wO_conss, wO_tup, wS_if, wS_for, wS_store, wS_par, on1_e, on2_e, onI_e, wR_range1, wR_range2, onSeq_some, wR_seqI, wR_zip, wR_enum, wR_lc, wR_yes, wR_sub, wR_add, wR_mul, wR_mod, wR_div, wR_pow, wR_neg, wR_lt, wR_le, wR_gt, wR_ge, wR_abs, wR_intC, wR_eqI, wR_eqS, wR_eqB, wR_isN, wR_lenL, wR_lenT, wR_listL, wR_listT, wR_tupL, wR_tupT, onO_some, wR_ixL, wR_ixT, sl_tup, sl_lst, sl_scr, isi_non, sub_non_int, sub_non_bool, sub_non_str, sub_non_tuple, sub_non_list, sub_non_dict, isi_bl, sub_bl_int, sub_bl_bool, sub_bl_str, sub_bl_tuple, sub_bl_list, sub_bl_dict, isi_int, sub_int_int, sub_int_bool, sub_int_str, sub_int_tuple, sub_int_list, sub_int_dict, isi_str, sub_str_int, sub_str_bool, sub_str_str, sub_str_tuple, sub_str_list, sub_str_dict, isi_tup, sub_tup_int, sub_tup_bool, sub_tup_str, sub_tup_tuple, sub_tup_list, sub_tup_dict, isi_lst, sub_lst_int, sub_lst_bool, sub_lst_str, sub_lst_tuple, sub_lst_list, sub_lst_dict, isi_dct, sub_dct_int, sub_dct_bool, sub_dct_str, sub_dct_tuple, sub_dct_list, sub_dct_dict, List.any_cons, List.any_nil, Bool.or_false, Bool.or_true, Bool.false_or, Bool.true_or, wR_addT, wR_addL, wO_star1, wR_inK, wR_inKI, wR_ixK, wR_ixKI, lookK_hit, lookK_nil, Option.isSome_some, Option.isSome_none, seqF_tup, seqF_lst, seqF_scr, sz0, sz1, sz2, sz3, sz4, sz5, sz6, sz7, sz8, sz9, sz10, sz11, sz12, sz13, sz14, sz15, sz16, startE, isN, List.length_cons, List.length_nil, List.map_cons, List.map_nil, List.cons_append, List.nil_append, List.getElem?_cons_zero, List.getElem?_cons_succ, List.set_cons_zero, List.set_cons_succ, List.reduceReplicate, Nat.reduceAdd, Nat.reduceSub, Nat.zero_add, Option.map_some, decide_eq_true_eq, Bool.false_eq_true, Bool.not_true, Bool.not_false, if_false, if_true, true_and, and_true]
    refine hp k _ _ _ _ hb3 (by omega) (by omega) fun x c4 hc4 x0 x1 => ?_
    rw [List.set_set]
    simp (decide := true) only [wR_ok, wR_stuck, wR_exc, wR_bind, wR_var, wR_c, wR_1, wR_2, wR_nilA, wR_consA, wR_ite, wR_tup, wR_lst, wR_cellL, wR_asB, wR_test, wR_andT, wR_orT, wR_notT, onB_bl, wR_andV, wR_orV, wR_notV, wR_if, wR_call, wR_chain, wR_slice, wR_noPart, wR_part, wR_okO, wS_next, wS_fNext, wS_seq, wS_ret, wS_retN, wS_expr, wS_asg, wO_set, wO_some, wO_nils, wO_conss, wO_tup, wS_if, wS_for, wS_store, wS_par, on1_e, on2_e, onI_e, wR_range1, wR_range2, onSeq_some, wR_seqI, wR_zip, wR_enum, wR_lc, wR_yes, wR_sub, wR_add, wR_mul, wR_mod, wR_div, wR_pow, wR_neg, wR_lt, wR_le, wR_gt, wR_ge, wR_abs, wR_intC, wR_eqI, wR_eqS, wR_eqB, wR_isN, wR_lenL, wR_lenT, wR_listL, wR_listT, wR_tupL, wR_tupT, onO_some, wR_ixL, wR_ixT, sl_tup, sl_lst, sl_scr, isi_non, sub_non_int, sub_non_bool, sub_non_str, sub_non_tuple, sub_non_list, sub_non_dict, isi_bl, sub_bl_int, sub_bl_bool, sub_bl_str, sub_bl_tuple, sub_bl_list, sub_bl_dict, isi_int, sub_int_int, sub_int_bool, sub_int_str, sub_int_tuple, sub_int_list, sub_int_dict, isi_str, sub_str_int, sub_str_bool, sub_str_str, sub_str_tuple, sub_str_list, sub_str_dict, isi_tup, sub_tup_int, sub_tup_bool, sub_tup_str, sub_tup_tuple, sub_tup_list, sub_tup_dict, isi_lst, sub_lst_int, sub_lst_bool, sub_lst_str, sub_lst_tuple, sub_lst_list, sub_lst_dict, isi_dct, sub_dct_int, sub_dct_bool, sub_dct_str, sub_dct_tuple, sub_dct_list, sub_dct_dict, List.any_cons, List.any_nil, Bool.or_false, Bool.or_true, Bool.false_or, Bool.true_or, wR_addT, wR_addL, wO_star1, wR_inK, wR_inKI, wR_ixK, wR_ixKI, lookK_hit, lookK_nil, Option.isSome_some, Option.isSome_none, seqF_tup, seqF_lst, seqF_scr, sz0, sz1, sz2, sz3, sz4, sz5, sz6, sz7, sz8, sz9, sz10, sz11, sz12, sz13, sz14, sz15, sz16, startE, isN, List.length_cons, List.length_nil, List.map_cons, List.map_nil, List.cons_append, List.nil_append, List.getElem?_cons_zero, List.getElem?_cons_succ, List.set_cons_zero, List.set_cons_succ, List.reduceReplicate, Nat.reduceAdd, Nat.reduceSub, Nat.zero_add, Option.map_some, decide_eq_true_eq, Bool.false_eq_true, Bool.not_true, Bool.not_false, if_false, if_true, true_and, and_true, wS_appO, onL_e, List.length_map]
    exact ⟨by omega, fin _ _ _ _ _ _ _ hc4 ⟨by omega, by omega⟩ ⟨by omega, by omega⟩⟩
  · rintro env g' ⟨ps, c, s3, s4, s5, s6, rfl, rfl, hc, hpl, hps⟩
    simp only [wS_frz, frz_lst (i := 2) (env := [.val (.ref k), .val (.int N), .lst (ps.map pairD), s3, s4, s5, s6]) rfl, wR_ok, wR_stuck, wR_exc, wR_bind, wR_var, wR_c, wR_1, wR_2, wR_nilA, wR_consA, wR_ite, wR_tup, wR_lst, wR_cellL, wR_asB, wR_test, wR_andT, wR_orT, wR_notT, onB_bl, wR_andV, wR_orV, wR_notV, wR_if, wR_call, wR_chain, wR_slice, wR_noPart, wR_part, wR_okO, wS_next, wS_fNext, wS_seq, wS_ret, wS_retN, wS_expr, wS_asg, wO_set, wO_some, wO_nils, wO_conss, wO_tup, wS_if, wS_for, wS_store, wS_par, on1_e, on2_e, onI_e, wR_range1, wR_range2, onSeq_some, wR_seqI, wR_zip, wR_enum, wR_lc, wR_yes, wR_sub, wR_add, wR_mul, wR_mod, wR_div, wR_pow, wR_neg, wR_lt, wR_le, wR_gt, wR_ge, wR_abs, wR_intC, wR_eqI, wR_eqS, wR_eqB, wR_isN, wR_lenL, wR_lenT, wR_listL, wR_listT, wR_tupL, wR_tupT, onO_some, wR_ixL, wR_ixT, sl_tup, sl_lst, sl_scr, isi_non, sub_non_int, sub_non_bool, sub_non_str, sub_non_tuple, sub_non_list, sub_non_dict, isi_bl, sub_bl_int, sub_bl_bool, sub_bl_str, sub_bl_tuple, sub_bl_list, sub_bl_dict, isi_int, sub_int_int, sub_int_bool, sub_int_str, sub_int_tuple, sub_int_list, sub_int_dict, isi_str, sub_str_int, sub_str_bool, sub_str_str, sub_str_tuple, sub_str_list, sub_str_dict, isi_tup, sub_tup_int, sub_tup_bool, sub_tup_str, sub_tup_tuple, sub_tup_list, sub_tup_dict, isi_lst, sub_lst_int, sub_lst_bool, sub_lst_str, sub_lst_tuple, sub_lst_list, sub_lst_dict, isi_dct, sub_dct_int, sub_dct_bool, sub_dct_str, sub_dct_tuple, sub_dct_list, sub_dct_dict, List.any_cons, List.any_nil, Bool.or_false, Bool.or_true, Bool.false_or, Bool.true_or, wR_addT, wR_addL, wO_star1, wR_inK, wR_inKI, wR_ixK, wR_ixKI, lookK_hit, lookK_nil, Option.isSome_some, Option.isSome_none, seqF_tup, seqF_lst, seqF_scr, sz0, sz1, sz2, sz3, sz4, sz5, sz6, sz7, sz8, sz9, sz10, sz11, sz12, sz13, sz14, sz15, sz16, startE, isN, List.length_cons, List.length_nil, List.map_cons, List.map_nil, List.cons_append, List.nil_append, List.getElem?_cons_zero, List.getElem?_cons_succ, List.set_cons_zero, List.set_cons_succ, List.reduceReplicate, Nat.reduceAdd, Nat.reduceSub, Nat.zero_add, Option.map_some, decide_eq_true_eq, Bool.false_eq_true, Bool.not_true, Bool.not_false, if_false, if_true, true_and, and_true]
    exact hQ ps c hc (by omega) hps
theorem want_ok (hp : PullS F__law_pull) {k : Nat} {g : G} {Q : D → G → Prop} {X : Exn → G → Prop} (N : Nat) (h1 : 1 ≤ N) (hN : N ≤ 5) (hb : BagAt g k) (hQ : ∀ (p : Pr) (c : Cell), BagC c → (belB p.1 N && belB p.2 2) = true → Q (pairD p) (g.set k c)) : wR (F__law_want [.ref k, .int N] g) Q X := by
  unfold F__law_want b__law_want
  rw [wR_body]
  refine ⟨rfl, ?_⟩
  simp only [wR_ok, wR_stuck, wR_exc, wR_bind, wR_var, wR_c, wR_1, wR_2, wR_nilA, wR_consA, wR_ite, wR_tup, wR_lst, wR_cellL, wR_asB, wR_test, wR_andT, wR_orT, wR_notT, onB_bl, wR_andV, wR_orV, wR_notV, wR_if, wR_call, wR_chain, wR_slice, wR_noPart, wR_part, wR_okO, wS_next, wS_fNext, wS_seq, wS_ret, wS_retN, wS_expr, wS_asg, wO_set, wO_some, wO_nils, wO_conss, wO_tup, wS_if, wS_for, wS_store, wS_par, on1_e, on2_e, onI_e, wR_range1, wR_range2, onSeq_some, wR_seqI, wR_zip, wR_enum, wR_lc, wR_yes, wR_sub, wR_add, wR_mul, wR_mod, wR_div, wR_pow, wR_neg, wR_lt, wR_le, wR_gt, wR_ge, wR_abs, wR_intC, wR_eqI, wR_eqS, wR_eqB, wR_isN, wR_lenL, wR_lenT, wR_listL, wR_listT, wR_tupL, wR_tupT, onO_some, wR_ixL, wR_ixT, sl_tup, sl_lst, sl_scr, isi_non, sub_non_int, sub_non_bool, sub_non_str, sub_non_tuple, sub_non_list, sub_non_dict, isi_bl, sub_bl_int, sub_bl_bool, sub_bl_str, sub_bl_tuple, sub_bl_list, sub_bl_dict, isi_int, sub_int_int, sub_int_bool, sub_int_str, sub_int_tuple, sub_int_list, sub_int_dict, isi_str, sub_str_int, sub_str_bool, sub_str_str, sub_str_tuple, sub_str_list, sub_str_dict, isi_tup, sub_tup_int, sub_tup_bool, sub_tup_str, sub_tup_tuple, sub_tup_list, sub_tup_dict, isi_lst, sub_lst_int, sub_lst_bool, sub_lst_str, sub_lst_tuple, sub_lst_list, sub_lst_dict, isi_dct, sub_dct_int, sub_dct_bool, sub_dct_str, sub_dct_tuple, sub_dct_list, sub_dct_dict, List.any_cons, List.any_nil, Bool.or_false, Bool.or_true, Bool.false_or, Bool.true_or, wR_addT, wR_addL, wO_star1, wR_inK, wR_inKI, wR_ixK, wR_ixKI, lookK_hit, lookK_nil, Option.isSome_some, Option.isSome_none, seqF_tup, seqF_lst, seqF_scr, sz0, sz1, sz2, sz3, sz4, sz5, sz6, sz7, sz8, sz9, sz10, sz11, sz12, sz13, sz14, sz15, sz16, startE, isN, List.length_cons, List.length_nil, List.map_cons, List.map_nil, List.cons_append, List.nil_append, List.getElem?_cons_zero, List.getElem?_cons_succ, List.set_cons_zero, List.set_cons_succ, List.reduceReplicate, Nat.reduceAdd, Nat.reduceSub, Nat.zero_add, Option.map_some, decide_eq_true_eq, Bool.false_eq_true, Bool.not_true, Bool.not_false, if_false, if_true, true_and, and_true]
  refine hp k _ _ _ _ hb (by omega) (by omega) fun y c3 hc3 y0 y1 => ?_
  have hb3 := hb.set hc3
  refine hp k _ _ _ _ hb3 (by omega) (by omega) fun x c4 hc4 x0 x1 => ?_
  rw [List.set_set]
  simp only [wR_ok, wR_stuck, wR_exc, wR_bind, wR_var, wR_c, wR_1, wR_2, wR_nilA, wR_consA, wR_ite, wR_tup, wR_lst, wR_cellL, wR_asB, wR_test, wR_andT, wR_orT, wR_notT, onB_bl, wR_andV, wR_orV, wR_notV, wR_if, wR_call, wR_chain, wR_slice, wR_noPart, wR_part, wR_okO, wS_next, wS_fNext, wS_seq, wS_ret, wS_retN, wS_expr, wS_asg, wO_set, wO_some, wO_nils, wO_conss, wO_tup, wS_if, wS_for, wS_store, wS_par, on1_e, on2_e, onI_e, wR_range1, wR_range2, onSeq_some, wR_seqI, wR_zip, wR_enum, wR_lc, wR_yes, wR_sub, wR_add, wR_mul, wR_mod, wR_div, wR_pow, wR_neg, wR_lt, wR_le, wR_gt, wR_ge, wR_abs, wR_intC, wR_eqI, wR_eqS, wR_eqB, wR_isN, wR_lenL, wR_lenT, wR_listL, wR_listT, wR_tupL, wR_tupT, onO_some, wR_ixL, wR_ixT, sl_tup, sl_lst, sl_scr, isi_non, sub_non_int, sub_non_bool, sub_non_str, sub_non_tuple, sub_non_list, sub_non_dict, isi_bl, sub_bl_int, sub_bl_bool, sub_bl_str, sub_bl_tuple, sub_bl_list, sub_bl_dict, isi_int, sub_int_int, sub_int_bool, sub_int_str, sub_int_tuple, sub_int_list, sub_int_dict, isi_str, sub_str_int, sub_str_bool, sub_str_str, sub_str_tuple, sub_str_list, sub_str_dict, isi_tup, sub_tup_int, sub_tup_bool, sub_tup_str, sub_tup_tuple, sub_tup_list, sub_tup_dict, isi_lst, sub_lst_int, sub_lst_bool, sub_lst_str, sub_lst_tuple, sub_lst_list, sub_lst_dict, isi_dct, sub_dct_int, sub_dct_bool, sub_dct_str, sub_dct_tuple, sub_dct_list, sub_dct_dict, List.any_cons, List.any_nil, Bool.or_false, Bool.or_true, Bool.false_or, Bool.true_or, wR_addT, wR_addL, wO_star1, wR_inK, wR_inKI, wR_ixK, wR_ixKI, lookK_hit, lookK_nil, Option.isSome_some, Option.isSome_none, seqF_tup, seqF_lst, seqF_scr, sz0, sz1, sz2, sz3, sz4, sz5, sz6, sz7, sz8, sz9, sz10, sz11, sz12, sz13, sz14, sz15, sz16, startE, isN, List.length_cons, List.length_nil, List.map_cons, List.map_nil, List.cons_append, List.nil_append, List.getElem?_cons_zero, List.getElem?_cons_succ, List.set_cons_zero, List.set_cons_succ, List.reduceReplicate, Nat.reduceAdd, Nat.reduceSub, Nat.zero_add, Option.map_some, decide_eq_true_eq, Bool.false_eq_true, Bool.not_true, Bool.not_false, if_false, if_true, true_and, and_true, wR_intB]
  refine hQ (y, _) c4 hc4 ?_
  simp only [belB, Bool.and_eq_true, decide_eq_true_eq]
  refine ⟨⟨y0, y1⟩, ?_⟩
  by_cases h : x = 0 <;> simp [h]
theorem wants_ok (hp : PullS F__law_pull) {k : Nat} {Q : D → G → Prop} {m n : Nat} (hm : 1 ≤ m ∧ m ≤ 5) (hn : 1 ≤ n ∧ n ≤ 5) (env : Env) (g : G) (hl : env.length = 7) (h0 : env[0]? = some (.val (.ref k))) (h2 : env[2]? = some (.val (.int m))) (h3 : env[3]? = some (.val (.int n))) (hb : BagAt g k)
    (hQ : ∀ (ws : List Pr) (c : Cell), BagC c → areWB m n ws = true → Q (prsD .lst ws) (g.set k c)) :
    wR (fLc (fRange1 (fConsA (fC (.int 4)) fNilA)) (gSet 6) fYes (fCall F__law_want (fConsA (fVar 0) (fConsA (f2 dIx (fLst (fConsA (fVar 2) (fConsA (fVar 3) fNilA))) (f2 dMod (fVar 6) (fC (.int 2)))) fNilA))) [6] env g) Q (fun _ _ => False) := by
  have e0 : ∀ x : Sl, ((wipeE env [6]).set 6 x)[0]? = env[0]? := fun x => by simp only [wipeE]; rw [List.getElem?_set_ne (by decide), List.getElem?_set_ne (by decide)]
  have e2 : ∀ x : Sl, ((wipeE env [6]).set 6 x)[2]? = env[2]? := fun x => by simp only [wipeE]; rw [List.getElem?_set_ne (by decide), List.getElem?_set_ne (by decide)]
  have e3 : ∀ x : Sl, ((wipeE env [6]).set 6 x)[3]? = env[3]? := fun x => by simp only [wipeE]; rw [List.getElem?_set_ne (by decide), List.getElem?_set_ne (by decide)]
  have e6 : ∀ x : Sl, ((wipeE env [6]).set 6 x)[6]? = some x := fun x => by simp only [wipeE]; rw [List.getElem?_set_self (by rw [List.length_set]; omega)]
  have s6 : ∀ (d : D) (g : G), gSet 6 d g (wipeE env [6]) = some ((wipeE env [6]).set 6 (.val d)) := fun d g => gSet_at (by simp only [wipeE]; rw [List.length_set]; omega)
  have r0 : (0 : Int) % 2 = 0 := by decide
  have r1 : (1 : Int) % 2 = 1 := by decide
  have r2 : (2 : Int) % 2 = 0 := by decide
  have r3 : (3 : Int) % 2 = 1 := by decide
  have two : (0 : Int) < 2 := by decide
  simp only [wR_ok, wR_stuck, wR_exc, wR_bind, wR_var, wR_c, wR_1, wR_2, wR_nilA, wR_consA, wR_ite, wR_tup, wR_lst, wR_cellL, wR_asB, wR_test, wR_andT, wR_orT, wR_notT, onB_bl, wR_andV, wR_orV, wR_notV, wR_if, wR_call, wR_chain, wR_slice, wR_noPart, wR_part, wR_okO, wS_next, wS_fNext, wS_seq, wS_ret, wS_retN, wS_expr, wS_asg, wO_set, wO_some, wO_nils, wO_conss, wO_tup, wS_if, wS_for, wS_store, wS_par, on1_e, on2_e, onI_e, wR_range1, wR_range2, onSeq_some, wR_seqI, wR_zip, wR_enum, wR_lc, wR_yes, wR_sub, wR_add, wR_mul, wR_mod, wR_div, wR_pow, wR_neg, wR_lt, wR_le, wR_gt, wR_ge, wR_abs, wR_intC, wR_eqI, wR_eqS, wR_eqB, wR_isN, wR_lenL, wR_lenT, wR_listL, wR_listT, wR_tupL, wR_tupT, onO_some, wR_ixL, wR_ixT, sl_tup, sl_lst, sl_scr, isi_non, sub_non_int, sub_non_bool, sub_non_str, sub_non_tuple, sub_non_list, sub_non_dict, isi_bl, sub_bl_int, sub_bl_bool, sub_bl_str, sub_bl_tuple, sub_bl_list, sub_bl_dict, isi_int, sub_int_int, sub_int_bool, sub_int_str, sub_int_tuple, sub_int_list, sub_int_dict, isi_str, sub_str_int, sub_str_bool, sub_str_str, sub_str_tuple, sub_str_list, sub_str_dict, isi_tup, sub_tup_int, sub_tup_bool, sub_tup_str, sub_tup_tuple, sub_tup_list, sub_tup_dict, isi_lst, sub_lst_int, sub_lst_bool, sub_lst_str, sub_lst_tuple, sub_lst_list, sub_lst_dict, isi_dct, sub_dct_int, sub_dct_bool, sub_dct_str, sub_dct_tuple, sub_dct_list, sub_dct_dict, List.any_cons, List.any_nil, Bool.or_false, Bool.or_true, Bool.false_or, Bool.true_or, wR_addT, wR_addL, wO_star1, wR_inK, wR_inKI, wR_ixK, wR_ixKI, lookK_hit, lookK_nil, Option.isSome_some, Option.isSome_none, seqF_tup, seqF_lst, seqF_scr, sz0, sz1, sz2, sz3, sz4, sz5, sz6, sz7, sz8, sz9, sz10, sz11, sz12, sz13, sz14, sz15, sz16, startE, isN, List.length_cons, List.length_nil, List.map_cons, List.map_nil, List.cons_append, List.nil_append, List.getElem?_cons_zero, List.getElem?_cons_succ, List.set_cons_zero, List.set_cons_succ, List.reduceReplicate, Nat.reduceAdd, Nat.reduceSub, Nat.zero_add, Option.map_some, decide_eq_true_eq, Bool.false_eq_true, Bool.not_true, Bool.not_false, if_false, if_true, true_and, and_true, rg4]
  simp only [wR_comp_cons, wR_comp_nil, s6, wR_ok, wR_stuck, wR_exc, wR_bind, wR_var, wR_c, wR_1, wR_2, wR_nilA, wR_consA, wR_ite, wR_tup, wR_lst, wR_cellL, wR_asB, wR_test, wR_andT, wR_orT, wR_notT, onB_bl, wR_andV, wR_orV, wR_notV, wR_if, wR_call, wR_chain, wR_slice, wR_noPart, wR_part, wR_okO, wS_next, wS_fNext, wS_seq, wS_ret, wS_retN, wS_expr, wS_asg, wO_set, wO_some, wO_nils, wO_conss, wO_tup, wS_if, wS_for, wS_store, wS_par, on1_e, on2_e, onI_e, wR_range1, wR_range2, onSeq_some, wR_seqI, wR_zip, wR_enum, wR_lc, wR_yes, wR_sub, wR_add, wR_mul, wR_mod, wR_div, wR_pow, wR_neg, wR_lt, wR_le, wR_gt, wR_ge, wR_abs, wR_intC, wR_eqI, wR_eqS, wR_eqB, wR_isN, wR_lenL, wR_lenT, wR_listL, wR_listT, wR_tupL, wR_tupT, onO_some, wR_ixL, wR_ixT, sl_tup, sl_lst, sl_scr, isi_non, sub_non_int, sub_non_bool, sub_non_str, sub_non_tuple, sub_non_list, sub_non_dict, isi_bl, sub_bl_int, sub_bl_bool, sub_bl_str, sub_bl_tuple, sub_bl_list, sub_bl_dict, isi_int, sub_int_int, sub_int_bool, sub_int_str, sub_int_tuple, sub_int_list, sub_int_dict, isi_str, sub_str_int, sub_str_bool, sub_str_str, sub_str_tuple, sub_str_list, sub_str_dict, isi_tup, sub_tup_int, sub_tup_bool, sub_tup_str, sub_tup_tuple, sub_tup_list, sub_tup_dict, isi_lst, sub_lst_int, sub_lst_bool, sub_lst_str, sub_lst_tuple, sub_lst_list, sub_lst_dict, isi_dct, sub_dct_int, sub_dct_bool, sub_dct_str, sub_dct_tuple, sub_dct_list, sub_dct_dict, List.any_cons, List.any_nil, Bool.or_false, Bool.or_true, Bool.false_or, Bool.true_or, wR_addT, wR_addL, wO_star1, wR_inK, wR_inKI, wR_ixK, wR_ixKI, lookK_hit, lookK_nil, Option.isSome_some, Option.isSome_none, seqF_tup, seqF_lst, seqF_scr, sz0, sz1, sz2, sz3, sz4, sz5, sz6, sz7, sz8, sz9, sz10, sz11, sz12, sz13, sz14, sz15, sz16, startE, isN, List.length_cons, List.length_nil, List.map_cons, List.map_nil, List.cons_append, List.nil_append, List.getElem?_cons_zero, List.getElem?_cons_succ, List.set_cons_zero, List.set_cons_succ, List.reduceReplicate, Nat.reduceAdd, Nat.reduceSub, Nat.zero_add, Option.map_some, decide_eq_true_eq, Bool.false_eq_true, Bool.not_true, Bool.not_false, if_false, if_true, true_and, and_true, e0, e2, e3, e6, h0, h2, h3, r0, r1, r2, r3, two, atI_zero, atI_one]
  refine ⟨by decide, want_ok hp m hm.1 hm.2 hb fun p0 c0 hc0 hp0 => ?_⟩
  have hb0 := hb.set hc0
  refine want_ok hp n hn.1 hn.2 hb0 fun p1 c1 hc1 hp1 => ?_
  have hb1 := hb0.set hc1
  refine want_ok hp m hm.1 hm.2 hb1 fun p2 c2 hc2 hp2 => ?_
  have hb2 := hb1.set hc2
  refine want_ok hp n hn.1 hn.2 hb2 fun p3 c3 hc3 hp3 => ?_
  simp only [List.set_set]
  refine hQ [p0, p1, p2, p3] c3 hc3 ?_
  simp only [areWB, hp0, hp1, hp2, hp3, Bool.and_true]
end FL

/-! PTa: drawn tables and parts are right -/
namespace FL
open PySem PySem.Spec PyProof.Rows L2 FR
theorem table_ok (hp : PullS F__law_pull) {k : Nat} {g : G} {Q : D → G → Prop} {X : Exn → G → Prop} (N : Nat) (hN : N ≤ 5) (hb : BagAt g k) (hQ : ∀ (t : List (List Int)) (c : Cell), BagC c → t.length = N → tabGood N t → Q (tabD .lst .lst t) (g.set k c)) : wR (F__law_table [.ref k, .int N] g) Q X := by
  have hset := hb.cell_set
  have hbc0 := hb.cell_ok
  generalize hb.cell = c0 at hset hbc0
  unfold F__law_table b__law_table
  rw [wR_body]
  refine ⟨rfl, ?_⟩
  have hsz : (1024 : Nat) ≤ sizeLine := by decide
  simp only [wR_ok, wR_stuck, wR_exc, wR_bind, wR_var, wR_c, wR_1, wR_2, wR_nilA, wR_consA, wR_ite, wR_tup, wR_lst, wR_cellL, wR_asB, wR_test, wR_andT, wR_orT, wR_notT, onB_bl, wR_andV, wR_orV, wR_notV, wR_if, wR_call, wR_chain, wR_slice, wR_noPart, wR_part, wR_okO, wS_next, wS_fNext, wS_seq, wS_ret, wS_retN, wS_expr, wS_asg, wO_set, wO_some, wO_nils, wO_conss, wO_tup, wS_if, wS_for, wS_store, wS_par, on1_e, on2_e, onI_e, wR_range1, wR_range2, onSeq_some, wR_seqI, wR_zip, wR_enum, wR_lc, wR_yes, wR_sub, wR_add, wR_mul, wR_mod, wR_div, wR_pow, wR_neg, wR_lt, wR_le, wR_gt, wR_ge, wR_abs, wR_intC, wR_eqI, wR_eqS, wR_eqB, wR_isN, wR_lenL, wR_lenT, wR_listL, wR_listT, wR_tupL, wR_tupT, onO_some, wR_ixL, wR_ixT, sl_tup, sl_lst, sl_scr, isi_non, sub_non_int, sub_non_bool, sub_non_str, sub_non_tuple, sub_non_list, sub_non_dict, isi_bl, sub_bl_int, sub_bl_bool, sub_bl_str, sub_bl_tuple, sub_bl_list, sub_bl_dict, isi_int, sub_int_int, sub_int_bool, sub_int_str, sub_int_tuple, sub_int_list, sub_int_dict, isi_str, sub_str_int, sub_str_bool, sub_str_str, sub_str_tuple, sub_str_list, sub_str_dict, isi_tup, sub_tup_int, sub_tup_bool, sub_tup_str, sub_tup_tuple, sub_tup_list, sub_tup_dict, isi_lst, sub_lst_int, sub_lst_bool, sub_lst_str, sub_lst_tuple, sub_lst_list, sub_lst_dict, isi_dct, sub_dct_int, sub_dct_bool, sub_dct_str, sub_dct_tuple, sub_dct_list, sub_dct_dict, List.any_cons, List.any_nil, Bool.or_false, Bool.or_true, Bool.false_or, Bool.true_or, wR_addT, wR_addL, wO_star1, wR_inK, wR_inKI, wR_ixK, wR_ixKI, lookK_hit, lookK_nil, Option.isSome_some, Option.isSome_none, seqF_tup, seqF_lst, seqF_scr, sz0, sz1, sz2, sz3, sz4, sz5, sz6, sz7, sz8, sz9, sz10, sz11, sz12, sz13, sz14, sz15, sz16, startE, isN, List.length_cons, List.length_nil, List.map_cons, List.map_nil, List.cons_append, List.nil_append, List.getElem?_cons_zero, List.getElem?_cons_succ, List.set_cons_zero, List.set_cons_succ, List.reduceReplicate, Nat.reduceAdd, Nat.reduceSub, Nat.zero_add, Option.map_some, decide_eq_true_eq, Bool.false_eq_true, Bool.not_true, Bool.not_false, if_false, if_true, true_and, and_true, wS_setL]
  refine ⟨by decide, by omega, ?_⟩
  refine wS_range (fun i env g' => ∃ t c s3 s4 s5 s6 s7, env = [.val (.ref k), .val (.int N), .lst (t.map (rowD .lst)), s3, s4, s5, s6, s7] ∧ g' = g.set k c ∧ BagC c ∧ t.length = i ∧ tabGood N t) 0 N ⟨[], c0, _, _, _, _, _, rfl, hset.symm, hbc0, rfl, fun n r hr => by simp at hr⟩ ?_ ?_
  · rintro i env g' hi ⟨t, c, s3, s4, s5, s6, s7, rfl, rfl, hc, htl, ht⟩
    have hiN : (0 : Int) + (i : Nat) = (i : Nat) := by omega
    simp only [wR_ok, wR_stuck, wR_exc, wR_bind, wR_var, wR_c, wR_1, wR_2, wR_nilA, wR_consA, wR_ite, wR_tup, wR_lst, wR_cellL, wR_asB, wR_test, wR_andT, wR_orT, wR_notT, onB_bl, wR_andV, wR_orV, wR_notV, wR_if, wR_call, wR_chain, wR_slice, wR_noPart, wR_part, wR_okO, wS_next, wS_fNext, wS_seq, wS_ret, wS_retN, wS_expr, wS_asg, wO_set, wO_some, wO_nils, wO_conss, wO_tup, wS_if, wS_for, wS_store, wS_par, on1_e, on2_e, onI_e, wR_range1, wR_range2, onSeq_some, wR_seqI, wR_zip, wR_enum, wR_lc, wR_yes, wR_sub, wR_add, wR_mul, wR_mod, wR_div, wR_pow, wR_neg, wR_lt, wR_le, wR_gt, wR_ge, wR_abs, wR_intC, wR_eqI, wR_eqS, wR_eqB, wR_isN, wR_lenL, wR_lenT, wR_listL, wR_listT, wR_tupL, wR_tupT, onO_some, wR_ixL, wR_ixT, sl_tup, sl_lst, sl_scr, isi_non, sub_non_int, sub_non_bool, sub_non_str, sub_non_tuple, sub_non_list, sub_non_dict, isi_bl, sub_bl_int, sub_bl_bool, sub_bl_str, sub_bl_tuple, sub_bl_list, sub_bl_dict, isi_int, sub_int_int, sub_int_bool, sub_int_str, sub_int_tuple, sub_int_list, sub_int_dict, isi_str, sub_str_int, sub_str_bool, sub_str_str, sub_str_tuple, sub_str_list, sub_str_dict, isi_tup, sub_tup_int, sub_tup_bool, sub_tup_str, sub_tup_tuple, sub_tup_list, sub_tup_dict, isi_lst, sub_lst_int, sub_lst_bool, sub_lst_str, sub_lst_tuple, sub_lst_list, sub_lst_dict, isi_dct, sub_dct_int, sub_dct_bool, sub_dct_str, sub_dct_tuple, sub_dct_list, sub_dct_dict, List.any_cons, List.any_nil, Bool.or_false, Bool.or_true, Bool.false_or, Bool.true_or, wR_addT, wR_addL, wO_star1, wR_inK, wR_inKI, wR_ixK, wR_ixKI, lookK_hit, lookK_nil, Option.isSome_some, Option.isSome_none, seqF_tup, seqF_lst, seqF_scr, sz0, sz1, sz2, sz3, sz4, sz5, sz6, sz7, sz8, sz9, sz10, sz11, sz12, sz13, sz14, sz15, sz16, startE, isN, List.length_cons, List.length_nil, List.map_cons, List.map_nil, List.cons_append, List.nil_append, List.getElem?_cons_zero, List.getElem?_cons_succ, List.set_cons_zero, List.set_cons_succ, List.reduceReplicate, Nat.reduceAdd, Nat.reduceSub, Nat.zero_add, Option.map_some, decide_eq_true_eq, Bool.false_eq_true, Bool.not_true, Bool.not_false, if_false, if_true, true_and, and_true, wS_setL, hiN]
    refine ⟨by decide, by omega, ?_⟩
    refine wS_range (fun j env g' => ∃ r c s5 s6 s7, env = [.val (.ref k), .val (.int N), .lst (t.map (rowD .lst)), .val (.int i), .lst (r.map D.int), s5, s6, s7] ∧ g' = g.set k c ∧ BagC c ∧ r.length = j ∧ rowGood i (t.getD (i - 1) []) r) 0 N ⟨[], c, _, _, _, rfl, rfl, hc, rfl, fun n r hr => by simp at hr⟩ ?_ ?_
    · rintro j env g' hj ⟨r, c, s5, s6, s7, rfl, rfl, hc, hrl, hr⟩
      have hjN : (0 : Int) + (j : Nat) = (j : Nat) := by omega
      have hz2 : ∀ k : Nat, decide ((0 : Int) < (k : Int)) = decide (0 < k) := fun k => by by_cases e : 0 < k <;> simp [e]
      have hb1 : BagAt (g.set k c) k := hb.set hc
      simp only [wR_ok, wR_stuck, wR_exc, wR_bind, wR_var, wR_c, wR_1, wR_2, wR_nilA, wR_consA, wR_ite, wR_tup, wR_lst, wR_cellL, wR_asB, wR_test, wR_andT, wR_orT, wR_notT, onB_bl, wR_andV, wR_orV, wR_notV, wR_if, wR_call, wR_chain, wR_slice, wR_noPart, wR_part, wR_okO, wS_next, wS_fNext, wS_seq, wS_ret, wS_retN, wS_expr, wS_asg, wO_set, wO_some, wO_nils, wO_conss, wO_tup, wS_if, wS_for, wS_store, wS_par, on1_e, on2_e, onI_e, wR_range1, wR_range2, onSeq_some, wR_seqI, wR_zip, wR_enum, wR_lc, wR_yes, wR_sub, wR_add, wR_mul, wR_mod, wR_div, wR_pow, wR_neg, wR_lt, wR_le, wR_gt, wR_ge, wR_abs, wR_intC, wR_eqI, wR_eqS, wR_eqB, wR_isN, wR_lenL, wR_lenT, wR_listL, wR_listT, wR_tupL, wR_tupT, onO_some, wR_ixL, wR_ixT, sl_tup, sl_lst, sl_scr, isi_non, sub_non_int, sub_non_bool, sub_non_str, sub_non_tuple, sub_non_list, sub_non_dict, isi_bl, sub_bl_int, sub_bl_bool, sub_bl_str, sub_bl_tuple, sub_bl_list, sub_bl_dict, isi_int, sub_int_int, sub_int_bool, sub_int_str, sub_int_tuple, sub_int_list, sub_int_dict, isi_str, sub_str_int, sub_str_bool, sub_str_str, sub_str_tuple, sub_str_list, sub_str_dict, isi_tup, sub_tup_int, sub_tup_bool, sub_tup_str, sub_tup_tuple, sub_tup_list, sub_tup_dict, isi_lst, sub_lst_int, sub_lst_bool, sub_lst_str, sub_lst_tuple, sub_lst_list, sub_lst_dict, isi_dct, sub_dct_int, sub_dct_bool, sub_dct_str, sub_dct_tuple, sub_dct_list, sub_dct_dict, List.any_cons, List.any_nil, Bool.or_false, Bool.or_true, Bool.false_or, Bool.true_or, wR_addT, wR_addL, wO_star1, wR_inK, wR_inKI, wR_ixK, wR_ixKI, lookK_hit, lookK_nil, Option.isSome_some, Option.isSome_none, seqF_tup, seqF_lst, seqF_scr, sz0, sz1, sz2, sz3, sz4, sz5, sz6, sz7, sz8, sz9, sz10, sz11, sz12, sz13, sz14, sz15, sz16, startE, isN, List.length_cons, List.length_nil, List.map_cons, List.map_nil, List.cons_append, List.nil_append, List.getElem?_cons_zero, List.getElem?_cons_succ, List.set_cons_zero, List.set_cons_succ, List.reduceReplicate, Nat.reduceAdd, Nat.reduceSub, Nat.zero_add, Option.map_some, decide_eq_true_eq, Bool.false_eq_true, Bool.not_true, Bool.not_false, if_false, if_true, true_and, and_true, hjN, hz2]
      by_cases h0 : 0 < i ∧ 0 < j
      · obtain ⟨hi0, hj0⟩ := h0
        obtain ⟨q, hq⟩ : ∃ q, t[i - 1]? = some q := ⟨t[i - 1]'(by omega), List.getElem?_eq_getElem (by omega)⟩
        obtain ⟨hql, hqg⟩ := ht _ _ hq
        obtain ⟨u, hu⟩ : ∃ u, q[j]? = some u := ⟨q[j]'(by omega), List.getElem?_eq_getElem (by omega)⟩
        obtain ⟨v, hv⟩ : ∃ v, r[j - 1]? = some v := ⟨r[j - 1]'(by omega), List.getElem?_eq_getElem (by omega)⟩
        have u1 := (hqg _ _ hu).1
        have v1 := (hr _ _ hv).1
        simp only [hi0, hj0, decide_true, wR_ok, wR_stuck, wR_exc, wR_bind, wR_var, wR_c, wR_1, wR_2, wR_nilA, wR_consA, wR_ite, wR_tup, wR_lst, wR_cellL, wR_asB, wR_test, wR_andT, wR_orT, wR_notT, onB_bl, wR_andV, wR_orV, wR_notV, wR_if, wR_call, wR_chain, wR_slice, wR_noPart, wR_part, wR_okO, wS_next, wS_fNext, wS_seq, wS_ret, wS_retN, wS_expr, wS_asg, wO_set, wO_some, wO_nils, wO_conss, wO_tup, wS_if, wS_for, wS_store, wS_par, on1_e, on2_e, onI_e, wR_range1, wR_range2, onSeq_some, wR_seqI, wR_zip, wR_enum, wR_lc, wR_yes, wR_sub, wR_add, wR_mul, wR_mod, wR_div, wR_pow, wR_neg, wR_lt, wR_le, wR_gt, wR_ge, wR_abs, wR_intC, wR_eqI, wR_eqS, wR_eqB, wR_isN, wR_lenL, wR_lenT, wR_listL, wR_listT, wR_tupL, wR_tupT, onO_some, wR_ixL, wR_ixT, sl_tup, sl_lst, sl_scr, isi_non, sub_non_int, sub_non_bool, sub_non_str, sub_non_tuple, sub_non_list, sub_non_dict, isi_bl, sub_bl_int, sub_bl_bool, sub_bl_str, sub_bl_tuple, sub_bl_list, sub_bl_dict, isi_int, sub_int_int, sub_int_bool, sub_int_str, sub_int_tuple, sub_int_list, sub_int_dict, isi_str, sub_str_int, sub_str_bool, sub_str_str, sub_str_tuple, sub_str_list, sub_str_dict, isi_tup, sub_tup_int, sub_tup_bool, sub_tup_str, sub_tup_tuple, sub_tup_list, sub_tup_dict, isi_lst, sub_lst_int, sub_lst_bool, sub_lst_str, sub_lst_tuple, sub_lst_list, sub_lst_dict, isi_dct, sub_dct_int, sub_dct_bool, sub_dct_str, sub_dct_tuple, sub_dct_list, sub_dct_dict, List.any_cons, List.any_nil, Bool.or_false, Bool.or_true, Bool.false_or, Bool.true_or, wR_addT, wR_addL, wO_star1, wR_inK, wR_inKI, wR_ixK, wR_ixKI, lookK_hit, lookK_nil, Option.isSome_some, Option.isSome_none, seqF_tup, seqF_lst, seqF_scr, sz0, sz1, sz2, sz3, sz4, sz5, sz6, sz7, sz8, sz9, sz10, sz11, sz12, sz13, sz14, sz15, sz16, startE, isN, List.length_cons, List.length_nil, List.map_cons, List.map_nil, List.cons_append, List.nil_append, List.getElem?_cons_zero, List.getElem?_cons_succ, List.set_cons_zero, List.set_cons_succ, List.reduceReplicate, Nat.reduceAdd, Nat.reduceSub, Nat.zero_add, Option.map_some, decide_eq_true_eq, Bool.false_eq_true, Bool.not_true, Bool.not_false, if_false, if_true, true_and, and_true, wR_ixO, onL_e, atI_nat1 hi0, atI_nat1 hj0, List.getElem?_map, hq, hu, hv, rowD, atI_nat, wR_max2, hz2]
        refine hp k 3 _ _ _ hb1 (by decide) (by decide) fun z c2 hc2 z0 z3 => ?_
        have fin : ∀ one : Int, (one = 0 ∨ one = 1) → rowGood i (t.getD (i - 1) []) (r ++ [max (max u v) one]) := fun one h1 => by
          refine hr.snoc ⟨by omega, by omega⟩ (fun h => by omega) (fun _ => ?_) (fun _ => ?_)
          · rw [List.getD_eq_getElem?_getD, List.getD_eq_getElem?_getD, hq]
            simp only [Option.getD_some, hrl, hu]; omega
          · rw [List.getD_eq_getElem?_getD, hrl, hv]
            simp only [Option.getD_some]; omega
        simp only [wR_ok, wR_stuck, wR_exc, wR_bind, wR_var, wR_c, wR_1, wR_2, wR_nilA, wR_consA, wR_ite, wR_tup, wR_lst, wR_cellL, wR_asB, wR_test, wR_andT, wR_orT, wR_notT, onB_bl, wR_andV, wR_orV, wR_notV, wR_if, wR_call, wR_chain, wR_slice, wR_noPart, wR_part, wR_okO, wS_next, wS_fNext, wS_seq, wS_ret, wS_retN, wS_expr, wS_asg, wO_set, wO_some, wO_nils, wO_conss, wO_tup, wS_if, wS_for, wS_store, wS_par, on1_e, on2_e, onI_e, wR_range1, wR_range2, onSeq_some, wR_seqI, wR_zip, wR_enum, wR_lc, wR_yes, wR_sub, wR_add, wR_mul, wR_mod, wR_div, wR_pow, wR_neg, wR_lt, wR_le, wR_gt, wR_ge, wR_abs, wR_intC, wR_eqI, wR_eqS, wR_eqB, wR_isN, wR_lenL, wR_lenT, wR_listL, wR_listT, wR_tupL, wR_tupT, onO_some, wR_ixL, wR_ixT, sl_tup, sl_lst, sl_scr, isi_non, sub_non_int, sub_non_bool, sub_non_str, sub_non_tuple, sub_non_list, sub_non_dict, isi_bl, sub_bl_int, sub_bl_bool, sub_bl_str, sub_bl_tuple, sub_bl_list, sub_bl_dict, isi_int, sub_int_int, sub_int_bool, sub_int_str, sub_int_tuple, sub_int_list, sub_int_dict, isi_str, sub_str_int, sub_str_bool, sub_str_str, sub_str_tuple, sub_str_list, sub_str_dict, isi_tup, sub_tup_int, sub_tup_bool, sub_tup_str, sub_tup_tuple, sub_tup_list, sub_tup_dict, isi_lst, sub_lst_int, sub_lst_bool, sub_lst_str, sub_lst_tuple, sub_lst_list, sub_lst_dict, isi_dct, sub_dct_int, sub_dct_bool, sub_dct_str, sub_dct_tuple, sub_dct_list, sub_dct_dict, List.any_cons, List.any_nil, Bool.or_false, Bool.or_true, Bool.false_or, Bool.true_or, wR_addT, wR_addL, wO_star1, wR_inK, wR_inKI, wR_ixK, wR_ixKI, lookK_hit, lookK_nil, Option.isSome_some, Option.isSome_none, seqF_tup, seqF_lst, seqF_scr, sz0, sz1, sz2, sz3, sz4, sz5, sz6, sz7, sz8, sz9, sz10, sz11, sz12, sz13, sz14, sz15, sz16, startE, isN, List.length_cons, List.length_nil, List.map_cons, List.map_nil, List.cons_append, List.nil_append, List.getElem?_cons_zero, List.getElem?_cons_succ, List.set_cons_zero, List.set_cons_succ, List.reduceReplicate, Nat.reduceAdd, Nat.reduceSub, Nat.zero_add, Option.map_some, decide_eq_true_eq, Bool.false_eq_true, Bool.not_true, Bool.not_false, if_false, if_true, true_and, and_true]
        split
        · simp only [wR_ok, wR_stuck, wR_exc, wR_bind, wR_var, wR_c, wR_1, wR_2, wR_nilA, wR_consA, wR_ite, wR_tup, wR_lst, wR_cellL, wR_asB, wR_test, wR_andT, wR_orT, wR_notT, onB_bl, wR_andV, wR_orV, wR_notV, wR_if, wR_call, wR_chain, wR_slice, wR_noPart, wR_part, wR_okO, wS_next, wS_fNext, wS_seq, wS_ret, wS_retN, wS_expr, wS_asg, wO_set, wO_some, wO_nils, wO_conss, wO_tup, wS_if, wS_for, wS_store, wS_par, on1_e, on2_e, onI_e, wR_range1, wR_range2, onSeq_some, wR_seqI, wR_zip, wR_enum, wR_lc, wR_yes, wR_sub, wR_add, wR_mul, wR_mod, wR_div, wR_pow, wR_neg, wR_lt, wR_le, wR_gt, wR_ge, wR_abs, wR_intC, wR_eqI, wR_eqS, wR_eqB, wR_isN, wR_lenL, wR_lenT, wR_listL, wR_listT, wR_tupL, wR_tupT, onO_some, wR_ixL, wR_ixT, sl_tup, sl_lst, sl_scr, isi_non, sub_non_int, sub_non_bool, sub_non_str, sub_non_tuple, sub_non_list, sub_non_dict, isi_bl, sub_bl_int, sub_bl_bool, sub_bl_str, sub_bl_tuple, sub_bl_list, sub_bl_dict, isi_int, sub_int_int, sub_int_bool, sub_int_str, sub_int_tuple, sub_int_list, sub_int_dict, isi_str, sub_str_int, sub_str_bool, sub_str_str, sub_str_tuple, sub_str_list, sub_str_dict, isi_tup, sub_tup_int, sub_tup_bool, sub_tup_str, sub_tup_tuple, sub_tup_list, sub_tup_dict, isi_lst, sub_lst_int, sub_lst_bool, sub_lst_str, sub_lst_tuple, sub_lst_list, sub_lst_dict, isi_dct, sub_dct_int, sub_dct_bool, sub_dct_str, sub_dct_tuple, sub_dct_list, sub_dct_dict, List.any_cons, List.any_nil, Bool.or_false, Bool.or_true, Bool.false_or, Bool.true_or, wR_addT, wR_addL, wO_star1, wR_inK, wR_inKI, wR_ixK, wR_ixKI, lookK_hit, lookK_nil, Option.isSome_some, Option.isSome_none, seqF_tup, seqF_lst, seqF_scr, sz0, sz1, sz2, sz3, sz4, sz5, sz6, sz7, sz8, sz9, sz10, sz11, sz12, sz13, sz14, sz15, sz16, startE, isN, List.length_cons, List.length_nil, List.map_cons, List.map_nil, List.cons_append, List.nil_append, List.getElem?_cons_zero, List.getElem?_cons_succ, List.set_cons_zero, List.set_cons_succ, List.reduceReplicate, Nat.reduceAdd, Nat.reduceSub, Nat.zero_add, Option.map_some, decide_eq_true_eq, Bool.false_eq_true, Bool.not_true, Bool.not_false, if_false, if_true, true_and, and_true, wS_appO, onL_e, wR_max2, List.length_map, List.set_set]
          refine ⟨by omega, r ++ [max (max u v) 1], c2, _, _, _, by rw [List.map_append]; rfl, rfl, hc2, by simp [hrl], fin 1 (.inr rfl)⟩
        · simp only [wR_ok, wR_stuck, wR_exc, wR_bind, wR_var, wR_c, wR_1, wR_2, wR_nilA, wR_consA, wR_ite, wR_tup, wR_lst, wR_cellL, wR_asB, wR_test, wR_andT, wR_orT, wR_notT, onB_bl, wR_andV, wR_orV, wR_notV, wR_if, wR_call, wR_chain, wR_slice, wR_noPart, wR_part, wR_okO, wS_next, wS_fNext, wS_seq, wS_ret, wS_retN, wS_expr, wS_asg, wO_set, wO_some, wO_nils, wO_conss, wO_tup, wS_if, wS_for, wS_store, wS_par, on1_e, on2_e, onI_e, wR_range1, wR_range2, onSeq_some, wR_seqI, wR_zip, wR_enum, wR_lc, wR_yes, wR_sub, wR_add, wR_mul, wR_mod, wR_div, wR_pow, wR_neg, wR_lt, wR_le, wR_gt, wR_ge, wR_abs, wR_intC, wR_eqI, wR_eqS, wR_eqB, wR_isN, wR_lenL, wR_lenT, wR_listL, wR_listT, wR_tupL, wR_tupT, onO_some, wR_ixL, wR_ixT, sl_tup, sl_lst, sl_scr, isi_non, sub_non_int, sub_non_bool, sub_non_str, sub_non_tuple, sub_non_list, sub_non_dict, isi_bl, sub_bl_int, sub_bl_bool, sub_bl_str, sub_bl_tuple, sub_bl_list, sub_bl_dict, isi_int, sub_int_int, sub_int_bool, sub_int_str, sub_int_tuple, sub_int_list, sub_int_dict, isi_str, sub_str_int, sub_str_bool, sub_str_str, sub_str_tuple, sub_str_list, sub_str_dict, isi_tup, sub_tup_int, sub_tup_bool, sub_tup_str, sub_tup_tuple, sub_tup_list, sub_tup_dict, isi_lst, sub_lst_int, sub_lst_bool, sub_lst_str, sub_lst_tuple, sub_lst_list, sub_lst_dict, isi_dct, sub_dct_int, sub_dct_bool, sub_dct_str, sub_dct_tuple, sub_dct_list, sub_dct_dict, List.any_cons, List.any_nil, Bool.or_false, Bool.or_true, Bool.false_or, Bool.true_or, wR_addT, wR_addL, wO_star1, wR_inK, wR_inKI, wR_ixK, wR_ixKI, lookK_hit, lookK_nil, Option.isSome_some, Option.isSome_none, seqF_tup, seqF_lst, seqF_scr, sz0, sz1, sz2, sz3, sz4, sz5, sz6, sz7, sz8, sz9, sz10, sz11, sz12, sz13, sz14, sz15, sz16, startE, isN, List.length_cons, List.length_nil, List.map_cons, List.map_nil, List.cons_append, List.nil_append, List.getElem?_cons_zero, List.getElem?_cons_succ, List.set_cons_zero, List.set_cons_succ, List.reduceReplicate, Nat.reduceAdd, Nat.reduceSub, Nat.zero_add, Option.map_some, decide_eq_true_eq, Bool.false_eq_true, Bool.not_true, Bool.not_false, if_false, if_true, true_and, and_true, wS_appO, onL_e, wR_max2, List.length_map, List.set_set]
          refine ⟨by omega, r ++ [max (max u v) 0], c2, _, _, _, by rw [List.map_append]; rfl, rfl, hc2, by simp [hrl], fin 0 (.inl rfl)⟩
      · have h00 : i = 0 ∨ j = 0 := by omega
        have fin : rowGood i (t.getD (i - 1) []) (r ++ [0]) := by
          refine hr.snoc ⟨by omega, by omega⟩ (fun h => rfl) (fun h1 => ?_) (fun h1 => ?_)
          · have hj0 : j = 0 := by omega
            obtain ⟨q, hq⟩ : ∃ q, t[i - 1]? = some q := ⟨t[i - 1]'(by omega), List.getElem?_eq_getElem (by omega)⟩
            obtain ⟨hql, hqg⟩ := ht _ _ hq
            obtain ⟨u, hu⟩ : ∃ u, q[j]? = some u := ⟨q[j]'(by omega), List.getElem?_eq_getElem (by omega)⟩
            have := (hqg _ _ hu).2.1 (.inr hj0)
            rw [List.getD_eq_getElem?_getD, List.getD_eq_getElem?_getD, hq]
            simp only [Option.getD_some, hrl, hu]; omega
          · have hi0 : i = 0 := by omega
            obtain ⟨v, hv⟩ : ∃ v, r[j - 1]? = some v := ⟨r[j - 1]'(by omega), List.getElem?_eq_getElem (by omega)⟩
            have := (hr _ _ hv).2.1 (.inl hi0)
            rw [List.getD_eq_getElem?_getD, hrl, hv]
            simp only [Option.getD_some]; omega
        have mx : max (0 : Int) 0 = 0 := by decide
        by_cases hi0 : 0 < i
        · have hj0 : ¬ 0 < j := by omega
          simp only [hi0, hj0, decide_true, decide_false, wR_ok, wR_stuck, wR_exc, wR_bind, wR_var, wR_c, wR_1, wR_2, wR_nilA, wR_consA, wR_ite, wR_tup, wR_lst, wR_cellL, wR_asB, wR_test, wR_andT, wR_orT, wR_notT, onB_bl, wR_andV, wR_orV, wR_notV, wR_if, wR_call, wR_chain, wR_slice, wR_noPart, wR_part, wR_okO, wS_next, wS_fNext, wS_seq, wS_ret, wS_retN, wS_expr, wS_asg, wO_set, wO_some, wO_nils, wO_conss, wO_tup, wS_if, wS_for, wS_store, wS_par, on1_e, on2_e, onI_e, wR_range1, wR_range2, onSeq_some, wR_seqI, wR_zip, wR_enum, wR_lc, wR_yes, wR_sub, wR_add, wR_mul, wR_mod, wR_div, wR_pow, wR_neg, wR_lt, wR_le, wR_gt, wR_ge, wR_abs, wR_intC, wR_eqI, wR_eqS, wR_eqB, wR_isN, wR_lenL, wR_lenT, wR_listL, wR_listT, wR_tupL, wR_tupT, onO_some, wR_ixL, wR_ixT, sl_tup, sl_lst, sl_scr, isi_non, sub_non_int, sub_non_bool, sub_non_str, sub_non_tuple, sub_non_list, sub_non_dict, isi_bl, sub_bl_int, sub_bl_bool, sub_bl_str, sub_bl_tuple, sub_bl_list, sub_bl_dict, isi_int, sub_int_int, sub_int_bool, sub_int_str, sub_int_tuple, sub_int_list, sub_int_dict, isi_str, sub_str_int, sub_str_bool, sub_str_str, sub_str_tuple, sub_str_list, sub_str_dict, isi_tup, sub_tup_int, sub_tup_bool, sub_tup_str, sub_tup_tuple, sub_tup_list, sub_tup_dict, isi_lst, sub_lst_int, sub_lst_bool, sub_lst_str, sub_lst_tuple, sub_lst_list, sub_lst_dict, isi_dct, sub_dct_int, sub_dct_bool, sub_dct_str, sub_dct_tuple, sub_dct_list, sub_dct_dict, List.any_cons, List.any_nil, Bool.or_false, Bool.or_true, Bool.false_or, Bool.true_or, wR_addT, wR_addL, wO_star1, wR_inK, wR_inKI, wR_ixK, wR_ixKI, lookK_hit, lookK_nil, Option.isSome_some, Option.isSome_none, seqF_tup, seqF_lst, seqF_scr, sz0, sz1, sz2, sz3, sz4, sz5, sz6, sz7, sz8, sz9, sz10, sz11, sz12, sz13, sz14, sz15, sz16, startE, isN, List.length_cons, List.length_nil, List.map_cons, List.map_nil, List.cons_append, List.nil_append, List.getElem?_cons_zero, List.getElem?_cons_succ, List.set_cons_zero, List.set_cons_succ, List.reduceReplicate, Nat.reduceAdd, Nat.reduceSub, Nat.zero_add, Option.map_some, decide_eq_true_eq, Bool.false_eq_true, Bool.not_true, Bool.not_false, if_false, if_true, true_and, and_true, wS_appO, onL_e, wR_max2, List.length_map, hz2, mx]
          refine ⟨by omega, r ++ [0], c, _, _, _, by rw [List.map_append]; rfl, rfl, hc, by simp [hrl], fin⟩
        · simp only [hi0, decide_true, decide_false, wR_ok, wR_stuck, wR_exc, wR_bind, wR_var, wR_c, wR_1, wR_2, wR_nilA, wR_consA, wR_ite, wR_tup, wR_lst, wR_cellL, wR_asB, wR_test, wR_andT, wR_orT, wR_notT, onB_bl, wR_andV, wR_orV, wR_notV, wR_if, wR_call, wR_chain, wR_slice, wR_noPart, wR_part, wR_okO, wS_next, wS_fNext, wS_seq, wS_ret, wS_retN, wS_expr, wS_asg, wO_set, wO_some, wO_nils, wO_conss, wO_tup, wS_if, wS_for, wS_store, wS_par, on1_e, on2_e, onI_e, wR_range1, wR_range2, onSeq_some, wR_seqI, wR_zip, wR_enum, wR_lc, wR_yes, wR_sub, wR_add, wR_mul, wR_mod, wR_div, wR_pow, wR_neg, wR_lt, wR_le, wR_gt, wR_ge, wR_abs, wR_intC, wR_eqI, wR_eqS, wR_eqB, wR_isN, wR_lenL, wR_lenT, wR_listL, wR_listT, wR_tupL, wR_tupT, onO_some, wR_ixL, wR_ixT, sl_tup, sl_lst, sl_scr, isi_non, sub_non_int, sub_non_bool, sub_non_str, sub_non_tuple, sub_non_list, sub_non_dict, isi_bl, sub_bl_int, sub_bl_bool, sub_bl_str, sub_bl_tuple, sub_bl_list, sub_bl_dict, isi_int, sub_int_int, sub_int_bool, sub_int_str, sub_int_tuple, sub_int_list, sub_int_dict, isi_str, sub_str_int, sub_str_bool, sub_str_str, sub_str_tuple, sub_str_list, sub_str_dict, isi_tup, sub_tup_int, sub_tup_bool, sub_tup_str, sub_tup_tuple, sub_tup_list, sub_tup_dict, isi_lst, sub_lst_int, sub_lst_bool, sub_lst_str, sub_lst_tuple, sub_lst_list, sub_lst_dict, isi_dct, sub_dct_int, sub_dct_bool, sub_dct_str, sub_dct_tuple, sub_dct_list, sub_dct_dict, List.any_cons, List.any_nil, Bool.or_false, Bool.or_true, Bool.false_or, Bool.true_or, wR_addT, wR_addL, wO_star1, wR_inK, wR_inKI, wR_ixK, wR_ixKI, lookK_hit, lookK_nil, Option.isSome_some, Option.isSome_none, seqF_tup, seqF_lst, seqF_scr, sz0, sz1, sz2, sz3, sz4, sz5, sz6, sz7, sz8, sz9, sz10, sz11, sz12, sz13, sz14, sz15, sz16, startE, isN, List.length_cons, List.length_nil, List.map_cons, List.map_nil, List.cons_append, List.nil_append, List.getElem?_cons_zero, List.getElem?_cons_succ, List.set_cons_zero, List.set_cons_succ, List.reduceReplicate, Nat.reduceAdd, Nat.reduceSub, Nat.zero_add, Option.map_some, decide_eq_true_eq, Bool.false_eq_true, Bool.not_true, Bool.not_false, if_false, if_true, true_and, and_true, wS_appO, onL_e, wR_max2, List.length_map, hz2, mx]
          refine ⟨by omega, r ++ [0], c, _, _, _, by rw [List.map_append]; rfl, rfl, hc, by simp [hrl], fin⟩
    · rintro env g' ⟨r, c, s5, s6, s7, rfl, rfl, hc, hrl, hr⟩
      simp only [wS_frz, frz_lst (i := 4) (env := [.val (.ref k), .val (.int N), .lst (t.map (rowD .lst)), .val (.int i), .lst (r.map D.int), s5, s6, s7]) rfl, wR_ok, wR_stuck, wR_exc, wR_bind, wR_var, wR_c, wR_1, wR_2, wR_nilA, wR_consA, wR_ite, wR_tup, wR_lst, wR_cellL, wR_asB, wR_test, wR_andT, wR_orT, wR_notT, onB_bl, wR_andV, wR_orV, wR_notV, wR_if, wR_call, wR_chain, wR_slice, wR_noPart, wR_part, wR_okO, wS_next, wS_fNext, wS_seq, wS_ret, wS_retN, wS_expr, wS_asg, wO_set, wO_some, wO_nils, wO_conss, wO_tup, wS_if, wS_for, wS_store, wS_par, on1_e, on2_e, onI_e, wR_range1, wR_range2, onSeq_some, wR_seqI, wR_zip, wR_enum, wR_lc, wR_yes, wR_sub, wR_add, wR_mul, wR_mod, wR_div, wR_pow, wR_neg, wR_lt, wR_le, wR_gt, wR_ge, wR_abs, wR_intC, wR_eqI, wR_eqS, wR_eqB, wR_isN, wR_lenL, wR_lenT, wR_listL, wR_listT, wR_tupL, wR_tupT, onO_some, wR_ixL, wR_ixT, sl_tup, sl_lst, sl_scr, isi_non, sub_non_int, sub_non_bool, sub_non_str, sub_non_tuple, sub_non_list, sub_non_dict, isi_bl, sub_bl_int, sub_bl_bool, sub_bl_str, sub_bl_tuple, sub_bl_list, sub_bl_dict, isi_int, sub_int_int, sub_int_bool, sub_int_str, sub_int_tuple, sub_int_list, sub_int_dict, isi_str, sub_str_int, sub_str_bool, sub_str_str, sub_str_tuple, sub_str_list, sub_str_dict, isi_tup, sub_tup_int, sub_tup_bool, sub_tup_str, sub_tup_tuple, sub_tup_list, sub_tup_dict, isi_lst, sub_lst_int, sub_lst_bool, sub_lst_str, sub_lst_tuple, sub_lst_list, sub_lst_dict, isi_dct, sub_dct_int, sub_dct_bool, sub_dct_str, sub_dct_tuple, sub_dct_list, sub_dct_dict, List.any_cons, List.any_nil, Bool.or_false, Bool.or_true, Bool.false_or, Bool.true_or, wR_addT, wR_addL, wO_star1, wR_inK, wR_inKI, wR_ixK, wR_ixKI, lookK_hit, lookK_nil, Option.isSome_some, Option.isSome_none, seqF_tup, seqF_lst, seqF_scr, sz0, sz1, sz2, sz3, sz4, sz5, sz6, sz7, sz8, sz9, sz10, sz11, sz12, sz13, sz14, sz15, sz16, startE, isN, List.length_cons, List.length_nil, List.map_cons, List.map_nil, List.cons_append, List.nil_append, List.getElem?_cons_zero, List.getElem?_cons_succ, List.set_cons_zero, List.set_cons_succ, List.reduceReplicate, Nat.reduceAdd, Nat.reduceSub, Nat.zero_add, Option.map_some, decide_eq_true_eq, Bool.false_eq_true, Bool.not_true, Bool.not_false, if_false, if_true, true_and, and_true, wS_appO, onL_e, List.length_map]
      refine ⟨by omega, t ++ [r], c, _, _, _, _, _, by rw [List.map_append]; rfl, rfl, hc, by simp [htl], ht.snoc hrl (by rw [htl]; exact hr)⟩
  · rintro env g' ⟨t, c, s3, s4, s5, s6, s7, rfl, rfl, hc, htl, ht⟩
    simp only [wS_frz, frz_lst (i := 2) (env := [.val (.ref k), .val (.int N), .lst (t.map (rowD .lst)), s3, s4, s5, s6, s7]) rfl, wR_ok, wR_stuck, wR_exc, wR_bind, wR_var, wR_c, wR_1, wR_2, wR_nilA, wR_consA, wR_ite, wR_tup, wR_lst, wR_cellL, wR_asB, wR_test, wR_andT, wR_orT, wR_notT, onB_bl, wR_andV, wR_orV, wR_notV, wR_if, wR_call, wR_chain, wR_slice, wR_noPart, wR_part, wR_okO, wS_next, wS_fNext, wS_seq, wS_ret, wS_retN, wS_expr, wS_asg, wO_set, wO_some, wO_nils, wO_conss, wO_tup, wS_if, wS_for, wS_store, wS_par, on1_e, on2_e, onI_e, wR_range1, wR_range2, onSeq_some, wR_seqI, wR_zip, wR_enum, wR_lc, wR_yes, wR_sub, wR_add, wR_mul, wR_mod, wR_div, wR_pow, wR_neg, wR_lt, wR_le, wR_gt, wR_ge, wR_abs, wR_intC, wR_eqI, wR_eqS, wR_eqB, wR_isN, wR_lenL, wR_lenT, wR_listL, wR_listT, wR_tupL, wR_tupT, onO_some, wR_ixL, wR_ixT, sl_tup, sl_lst, sl_scr, isi_non, sub_non_int, sub_non_bool, sub_non_str, sub_non_tuple, sub_non_list, sub_non_dict, isi_bl, sub_bl_int, sub_bl_bool, sub_bl_str, sub_bl_tuple, sub_bl_list, sub_bl_dict, isi_int, sub_int_int, sub_int_bool, sub_int_str, sub_int_tuple, sub_int_list, sub_int_dict, isi_str, sub_str_int, sub_str_bool, sub_str_str, sub_str_tuple, sub_str_list, sub_str_dict, isi_tup, sub_tup_int, sub_tup_bool, sub_tup_str, sub_tup_tuple, sub_tup_list, sub_tup_dict, isi_lst, sub_lst_int, sub_lst_bool, sub_lst_str, sub_lst_tuple, sub_lst_list, sub_lst_dict, isi_dct, sub_dct_int, sub_dct_bool, sub_dct_str, sub_dct_tuple, sub_dct_list, sub_dct_dict, List.any_cons, List.any_nil, Bool.or_false, Bool.or_true, Bool.false_or, Bool.true_or, wR_addT, wR_addL, wO_star1, wR_inK, wR_inKI, wR_ixK, wR_ixKI, lookK_hit, lookK_nil, Option.isSome_some, Option.isSome_none, seqF_tup, seqF_lst, seqF_scr, sz0, sz1, sz2, sz3, sz4, sz5, sz6, sz7, sz8, sz9, sz10, sz11, sz12, sz13, sz14, sz15, sz16, startE, isN, List.length_cons, List.length_nil, List.map_cons, List.map_nil, List.cons_append, List.nil_append, List.getElem?_cons_zero, List.getElem?_cons_succ, List.set_cons_zero, List.set_cons_succ, List.reduceReplicate, Nat.reduceAdd, Nat.reduceSub, Nat.zero_add, Option.map_some, decide_eq_true_eq, Bool.false_eq_true, Bool.not_true, Bool.not_false, if_false, if_true, true_and, and_true]
    exact hQ t c hc htl ht
theorem parts_ok (hp : PullS F__law_pull) {k : Nat} {g : G} {Q : D → G → Prop} {X : Exn → G → Prop} {most : Int} (h1 : 1 ≤ most) (h5 : most ≤ 5) (hb : BagAt g k) (hQ : ∀ (p : Pt) (c : Cell), BagC c → p.Ok → Q p.partsD (g.set k c)) : wR (F__law_parts [.ref k, .int most] g) Q X := by
  unfold F__law_parts b__law_parts
  rw [wR_body]
  refine ⟨rfl, ?_⟩
  have hW := fun (Q : D → G → Prop) m n hm hn => @wants_ok hp k Q m n hm hn
  generalize (fLc (fRange1 (fConsA (fC (.int 4)) fNilA)) (gSet 6) fYes (fCall F__law_want (fConsA (fVar 0) (fConsA (f2 dIx (fLst (fConsA (fVar 2) (fConsA (fVar 3) fNilA))) (f2 dMod (fVar 6) (fC (.int 2)))) fNilA))) [6]) = L at hW ⊢
  simp only [wR_ok, wR_stuck, wR_exc, wR_bind, wR_var, wR_c, wR_1, wR_2, wR_nilA, wR_consA, wR_ite, wR_tup, wR_lst, wR_cellL, wR_asB, wR_test, wR_andT, wR_orT, wR_notT, onB_bl, wR_andV, wR_orV, wR_notV, wR_if, wR_call, wR_chain, wR_slice, wR_noPart, wR_part, wR_okO, wS_next, wS_fNext, wS_seq, wS_ret, wS_retN, wS_expr, wS_asg, wO_set, wO_some, wO_nils, wO_conss, wO_tup, wS_if, wS_for, wS_store, wS_par, on1_e, on2_e, onI_e, wR_range1, wR_range2, onSeq_some, wR_seqI, wR_zip, wR_enum, wR_lc, wR_yes, wR_sub, wR_add, wR_mul, wR_mod, wR_div, wR_pow, wR_neg, wR_lt, wR_le, wR_gt, wR_ge, wR_abs, wR_intC, wR_eqI, wR_eqS, wR_eqB, wR_isN, wR_lenL, wR_lenT, wR_listL, wR_listT, wR_tupL, wR_tupT, onO_some, wR_ixL, wR_ixT, sl_tup, sl_lst, sl_scr, isi_non, sub_non_int, sub_non_bool, sub_non_str, sub_non_tuple, sub_non_list, sub_non_dict, isi_bl, sub_bl_int, sub_bl_bool, sub_bl_str, sub_bl_tuple, sub_bl_list, sub_bl_dict, isi_int, sub_int_int, sub_int_bool, sub_int_str, sub_int_tuple, sub_int_list, sub_int_dict, isi_str, sub_str_int, sub_str_bool, sub_str_str, sub_str_tuple, sub_str_list, sub_str_dict, isi_tup, sub_tup_int, sub_tup_bool, sub_tup_str, sub_tup_tuple, sub_tup_list, sub_tup_dict, isi_lst, sub_lst_int, sub_lst_bool, sub_lst_str, sub_lst_tuple, sub_lst_list, sub_lst_dict, isi_dct, sub_dct_int, sub_dct_bool, sub_dct_str, sub_dct_tuple, sub_dct_list, sub_dct_dict, List.any_cons, List.any_nil, Bool.or_false, Bool.or_true, Bool.false_or, Bool.true_or, wR_addT, wR_addL, wO_star1, wR_inK, wR_inKI, wR_ixK, wR_ixKI, lookK_hit, lookK_nil, Option.isSome_some, Option.isSome_none, seqF_tup, seqF_lst, seqF_scr, sz0, sz1, sz2, sz3, sz4, sz5, sz6, sz7, sz8, sz9, sz10, sz11, sz12, sz13, sz14, sz15, sz16, startE, isN, List.length_cons, List.length_nil, List.map_cons, List.map_nil, List.cons_append, List.nil_append, List.getElem?_cons_zero, List.getElem?_cons_succ, List.set_cons_zero, List.set_cons_succ, List.reduceReplicate, Nat.reduceAdd, Nat.reduceSub, Nat.zero_add, Option.map_some, decide_eq_true_eq, Bool.false_eq_true, Bool.not_true, Bool.not_false, if_false, if_true, true_and, and_true]
  refine hp k _ _ _ _ hb (by omega) (by omega) fun m0 c0 hc0 m1 m2 => ?_
  have hb0 := hb.set hc0
  simp only [wR_ok, wR_stuck, wR_exc, wR_bind, wR_var, wR_c, wR_1, wR_2, wR_nilA, wR_consA, wR_ite, wR_tup, wR_lst, wR_cellL, wR_asB, wR_test, wR_andT, wR_orT, wR_notT, onB_bl, wR_andV, wR_orV, wR_notV, wR_if, wR_call, wR_chain, wR_slice, wR_noPart, wR_part, wR_okO, wS_next, wS_fNext, wS_seq, wS_ret, wS_retN, wS_expr, wS_asg, wO_set, wO_some, wO_nils, wO_conss, wO_tup, wS_if, wS_for, wS_store, wS_par, on1_e, on2_e, onI_e, wR_range1, wR_range2, onSeq_some, wR_seqI, wR_zip, wR_enum, wR_lc, wR_yes, wR_sub, wR_add, wR_mul, wR_mod, wR_div, wR_pow, wR_neg, wR_lt, wR_le, wR_gt, wR_ge, wR_abs, wR_intC, wR_eqI, wR_eqS, wR_eqB, wR_isN, wR_lenL, wR_lenT, wR_listL, wR_listT, wR_tupL, wR_tupT, onO_some, wR_ixL, wR_ixT, sl_tup, sl_lst, sl_scr, isi_non, sub_non_int, sub_non_bool, sub_non_str, sub_non_tuple, sub_non_list, sub_non_dict, isi_bl, sub_bl_int, sub_bl_bool, sub_bl_str, sub_bl_tuple, sub_bl_list, sub_bl_dict, isi_int, sub_int_int, sub_int_bool, sub_int_str, sub_int_tuple, sub_int_list, sub_int_dict, isi_str, sub_str_int, sub_str_bool, sub_str_str, sub_str_tuple, sub_str_list, sub_str_dict, isi_tup, sub_tup_int, sub_tup_bool, sub_tup_str, sub_tup_tuple, sub_tup_list, sub_tup_dict, isi_lst, sub_lst_int, sub_lst_bool, sub_lst_str, sub_lst_tuple, sub_lst_list, sub_lst_dict, isi_dct, sub_dct_int, sub_dct_bool, sub_dct_str, sub_dct_tuple, sub_dct_list, sub_dct_dict, List.any_cons, List.any_nil, Bool.or_false, Bool.or_true, Bool.false_or, Bool.true_or, wR_addT, wR_addL, wO_star1, wR_inK, wR_inKI, wR_ixK, wR_ixKI, lookK_hit, lookK_nil, Option.isSome_some, Option.isSome_none, seqF_tup, seqF_lst, seqF_scr, sz0, sz1, sz2, sz3, sz4, sz5, sz6, sz7, sz8, sz9, sz10, sz11, sz12, sz13, sz14, sz15, sz16, startE, isN, List.length_cons, List.length_nil, List.map_cons, List.map_nil, List.cons_append, List.nil_append, List.getElem?_cons_zero, List.getElem?_cons_succ, List.set_cons_zero, List.set_cons_succ, List.reduceReplicate, Nat.reduceAdd, Nat.reduceSub, Nat.zero_add, Option.map_some, decide_eq_true_eq, Bool.false_eq_true, Bool.not_true, Bool.not_false, if_false, if_true, true_and, and_true]
  refine hp k _ _ _ _ hb0 (by omega) (by omega) fun n0 c1 hc1 n1 n2 => ?_
  have hb1 := hb0.set hc1
  simp (decide := true) only [wR_ok, wR_stuck, wR_exc, wR_bind, wR_var, wR_c, wR_1, wR_2, wR_nilA, wR_consA, wR_ite, wR_tup, wR_lst, wR_cellL, wR_asB, wR_test, wR_andT, wR_orT, wR_notT, onB_bl, wR_andV, wR_orV, wR_notV, wR_if, wR_call, wR_chain, wR_slice, wR_noPart, wR_part, wR_okO, wS_next, wS_fNext, wS_seq, wS_ret, wS_retN, wS_expr, wS_asg, wO_set, wO_some, wO_nils, wO_conss, wO_tup, wS_if, wS_for, wS_store, wS_par, on1_e, on2_e, onI_e, wR_range1, wR_range2, onSeq_some, wR_seqI, wR_zip, wR_enum, wR_lc, wR_yes, wR_sub, wR_add, wR_mul, wR_mod, wR_div, wR_pow, wR_neg, wR_lt, wR_le, wR_gt, wR_ge, wR_abs, wR_intC, wR_eqI, wR_eqS, wR_eqB, wR_isN, wR_lenL, wR_lenT, wR_listL, wR_listT, wR_tupL, wR_tupT, onO_some, wR_ixL, wR_ixT, sl_tup, sl_lst, sl_scr, isi_non, sub_non_int, sub_non_bool, sub_non_str, sub_non_tuple, sub_non_list, sub_non_dict, isi_bl, sub_bl_int, sub_bl_bool, sub_bl_str, sub_bl_tuple, sub_bl_list, sub_bl_dict, isi_int, sub_int_int, sub_int_bool, sub_int_str, sub_int_tuple, sub_int_list, sub_int_dict, isi_str, sub_str_int, sub_str_bool, sub_str_str, sub_str_tuple, sub_str_list, sub_str_dict, isi_tup, sub_tup_int, sub_tup_bool, sub_tup_str, sub_tup_tuple, sub_tup_list, sub_tup_dict, isi_lst, sub_lst_int, sub_lst_bool, sub_lst_str, sub_lst_tuple, sub_lst_list, sub_lst_dict, isi_dct, sub_dct_int, sub_dct_bool, sub_dct_str, sub_dct_tuple, sub_dct_list, sub_dct_dict, List.any_cons, List.any_nil, Bool.or_false, Bool.or_true, Bool.false_or, Bool.true_or, wR_addT, wR_addL, wO_star1, wR_inK, wR_inKI, wR_ixK, wR_ixKI, lookK_hit, lookK_nil, Option.isSome_some, Option.isSome_none, seqF_tup, seqF_lst, seqF_scr, sz0, sz1, sz2, sz3, sz4, sz5, sz6, sz7, sz8, sz9, sz10, sz11, sz12, sz13, sz14, sz15, sz16, startE, isN, List.length_cons, List.length_nil, List.map_cons, List.map_nil, List.cons_append, List.nil_append, List.getElem?_cons_zero, List.getElem?_cons_succ, List.set_cons_zero, List.set_cons_succ, List.reduceReplicate, Nat.reduceAdd, Nat.reduceSub, Nat.zero_add, Option.map_some, decide_eq_true_eq, Bool.false_eq_true, Bool.not_true, Bool.not_false, if_false, if_true, true_and, and_true, rg4]
  obtain ⟨m, hm⟩ := Int.eq_ofNat_of_zero_le (show 0 ≤ 1 + m0 by omega)
  obtain ⟨n, hn⟩ := Int.eq_ofNat_of_zero_le (show 0 ≤ 1 + n0 by omega)
  have hm1 : 1 ≤ m ∧ m ≤ 5 := by omega
  have hn1 : 1 ≤ n ∧ n ≤ 5 := by omega
  rw [hm, hn]
  have s5 : ∀ (d : D) (g : G), gSet 5 d g (wipeE [Sl.val (.ref k), .val (.int most), .val (.int m), .val (.int n), .un, .un, .un] [5]) = some [Sl.val (.ref k), .val (.int most), .val (.int m), .val (.int n), .un, .val d, .un] := fun d g => rfl
  simp -implicitDefEqProofs only [wR_comp_cons, wR_comp_nil, s5, wR_ok, wR_stuck, wR_exc, wR_bind, wR_var, wR_c, wR_1, wR_2, wR_nilA, wR_consA, wR_ite, wR_tup, wR_lst, wR_cellL, wR_asB, wR_test, wR_andT, wR_orT, wR_notT, onB_bl, wR_andV, wR_orV, wR_notV, wR_if, wR_call, wR_chain, wR_slice, wR_noPart, wR_part, wR_okO, wS_next, wS_fNext, wS_seq, wS_ret, wS_retN, wS_expr, wS_asg, wO_set, wO_some, wO_nils, wO_conss, wO_tup, wS_if, wS_for, wS_store, wS_par, on1_e, on2_e, onI_e, wR_range1, wR_range2, onSeq_some, wR_seqI, wR_zip, wR_enum, wR_lc, wR_yes, wR_sub, wR_add, wR_mul, wR_mod, wR_div, wR_pow, wR_neg, wR_lt, wR_le, wR_gt, wR_ge, wR_abs, wR_intC, wR_eqI, wR_eqS, wR_eqB, wR_isN, wR_lenL, wR_lenT, wR_listL, wR_listT, wR_tupL, wR_tupT, onO_some, wR_ixL, wR_ixT, sl_tup, sl_lst, sl_scr, isi_non, sub_non_int, sub_non_bool, sub_non_str, sub_non_tuple, sub_non_list, sub_non_dict, isi_bl, sub_bl_int, sub_bl_bool, sub_bl_str, sub_bl_tuple, sub_bl_list, sub_bl_dict, isi_int, sub_int_int, sub_int_bool, sub_int_str, sub_int_tuple, sub_int_list, sub_int_dict, isi_str, sub_str_int, sub_str_bool, sub_str_str, sub_str_tuple, sub_str_list, sub_str_dict, isi_tup, sub_tup_int, sub_tup_bool, sub_tup_str, sub_tup_tuple, sub_tup_list, sub_tup_dict, isi_lst, sub_lst_int, sub_lst_bool, sub_lst_str, sub_lst_tuple, sub_lst_list, sub_lst_dict, isi_dct, sub_dct_int, sub_dct_bool, sub_dct_str, sub_dct_tuple, sub_dct_list, sub_dct_dict, List.any_cons, List.any_nil, Bool.or_false, Bool.or_true, Bool.false_or, Bool.true_or, wR_addT, wR_addL, wO_star1, wR_inK, wR_inKI, wR_ixK, wR_ixKI, lookK_hit, lookK_nil, Option.isSome_some, Option.isSome_none, seqF_tup, seqF_lst, seqF_scr, sz0, sz1, sz2, sz3, sz4, sz5, sz6, sz7, sz8, sz9, sz10, sz11, sz12, sz13, sz14, sz15, sz16, startE, isN, List.length_cons, List.length_nil, List.map_cons, List.map_nil, List.cons_append, List.nil_append, List.getElem?_cons_zero, List.getElem?_cons_succ, List.set_cons_zero, List.set_cons_succ, List.reduceReplicate, Nat.reduceAdd, Nat.reduceSub, Nat.zero_add, Option.map_some, decide_eq_true_eq, Bool.false_eq_true, Bool.not_true, Bool.not_false, if_false, if_true, true_and, and_true]
  refine hW _ m n hm1 hn1 [Sl.val (.ref k), .val (.int most), .val (.int m), .val (.int n), .un, .val (.int 0), .un] _ rfl rfl rfl rfl hb1 fun w0 d0 hd0 hw0 => ?_
  have hb2 := hb1.set hd0
  refine hW _ m n hm1 hn1 [Sl.val (.ref k), .val (.int most), .val (.int m), .val (.int n), .un, .val (.int 1), .un] _ rfl rfl rfl rfl hb2 fun w1 d1 hd1 hw1 => ?_
  have hb3 := hb2.set hd1
  refine hW _ m n hm1 hn1 [Sl.val (.ref k), .val (.int most), .val (.int m), .val (.int n), .un, .val (.int 2), .un] _ rfl rfl rfl rfl hb3 fun w2 d2 hd2 hw2 => ?_
  have hb4 := hb3.set hd2
  refine hW _ m n hm1 hn1 [Sl.val (.ref k), .val (.int most), .val (.int m), .val (.int n), .un, .val (.int 3), .un] _ rfl rfl rfl rfl hb4 fun w3 d3 hd3 hw3 => ?_
  have hb5 := hb4.set hd3
  refine table_ok hp m hm1.2 hb5 fun t0 e0 he0 ht0 hg0 => ?_
  have hb6 := hb5.set he0
  refine table_ok hp n hn1.2 hb6 fun t1 e1 he1 ht1 hg1 => ?_
  have hb7 := hb6.set he1
  refine splits_ok hp n hn1.1 hn1.2 hb7 fun ps e2 he2 hps hsp => ?_
  simp only [List.set_set]
  refine hQ ⟨t0, t1, ps, w0, w1, w2, w3⟩ e2 he2 ?_
  subst ht0 ht1
  exact ⟨hg0.isTab hm1.1 hm1.2, hg0.fall, hg1.isTab hn1.1 hn1.2, hg1.fall, hsp.isSpl hps, hsp.fall, hw0, hw1, hw2, hw3⟩
end FL

/-! PL: the law's draws; its comparison -/
namespace FL
open PySem PySem.Spec PyProof.Rows L2 FR
theorem pull_ok : PullS F__law_pull := fun k m g Q X hb hm hm2 hQ => by
  obtain ⟨c, hk, xs, i, b, s, n, rfl, hi, hs⟩ := hb
  have hl : k < g.length := (List.getElem?_eq_some_iff.mp hk).1
  have gs : ∀ c : Cell, (g.set k c)[k]? = some c := fun c => List.getElem?_set_self hl
  unfold F__law_pull b__law_pull
  rw [wR_body]
  refine ⟨rfl, ?_⟩
  unfold bagC at hk
  have sE : ∀ a b : D, startE 7 [a, b] = [.val a, .val b, .un, .un, .un, .un, .un] := fun _ _ => rfl
  have fin : ∀ (r : Int) (xs : List Int) (i b s n : Int), 0 ≤ i → (-(2 ^ 64) < s ∧ s < 2 ^ 64) → Q (.int (r % m)) (g.set k (.lst [.lst (xs.map D.int), .int i, .int b, .int s, .int n])) :=
    fun r xs i b s n h1 h2 => hQ _ _ ⟨xs, i, b, s, n, rfl, h1, h2⟩ (mod_lo hm) (mod_hi hm)
  by_cases hc : b = 0 ∧ i < xs.length
  · obtain ⟨x, hx⟩ := atI_map hi hc.2
    obtain ⟨hb0, hil⟩ := hc
    subst hb0
    simp only [wS_seq, wS_store, wS_if, wS_asg, wS_ret, wS_fNext, wR_test, wR_asB, wR_andT, wR_call, wR_consA, wR_nilA, wR_lenL, wR_abs, wR_intC, wR_mod, wR_mul, wR_div, wR_pow, wR_lt, wR_ge, wR_gt, wR_eqI, wR_2, wR_var, wR_c, sE, List.length_cons, List.length_nil, List.map_cons, List.map_nil, List.cons_append, List.nil_append, List.getElem?_cons_zero, List.getElem?_cons_succ, wR_ixR hk, wR_ixL, wR_add, setCell_lst hk, wR_ixR (gs _), setCell_lst (gs _), List.set_set, i50, i51, i52, i53, i54, onO_some, List.set_cons_zero, List.set_cons_succ, Nat.reduceAdd, j51, j52, j53, j54, Option.map_some, wO_set, decide_eq_true_eq, Bool.false_eq_true, if_false, if_true, List.length_map, hx, hil]
    repeat' first | split | apply And.intro
    all_goals first | exact fin _ _ _ _ _ _ (by omega) hs | exact fin _ _ _ _ _ _ (by omega) sd_ok | exact .inl hs | exact .inl sd_ok | exact .inr (by decide) | omega | decide
  · simp only [wS_seq, wS_store, wS_if, wS_asg, wS_ret, wS_fNext, wR_test, wR_asB, wR_andT, wR_call, wR_consA, wR_nilA, wR_lenL, wR_abs, wR_intC, wR_mod, wR_mul, wR_div, wR_pow, wR_lt, wR_ge, wR_gt, wR_eqI, wR_2, wR_var, wR_c, sE, List.length_cons, List.length_nil, List.map_cons, List.map_nil, List.cons_append, List.nil_append, List.getElem?_cons_zero, List.getElem?_cons_succ, wR_ixR hk, wR_ixL, wR_add, setCell_lst hk, wR_ixR (gs _), setCell_lst (gs _), List.set_set, i50, i51, i52, i53, i54, onO_some, List.set_cons_zero, List.set_cons_succ, Nat.reduceAdd, j51, j52, j53, j54, Option.map_some, wO_set, decide_eq_true_eq, Bool.false_eq_true, if_false, if_true, List.length_map]
    repeat' first | split | apply And.intro
    all_goals first | exact fin _ _ _ _ _ _ (by omega) hs | exact fin _ _ _ _ _ _ (by omega) sd_ok | exact .inl hs | exact .inl sd_ok | exact .inr (by decide) | omega | decide

theorem same_refl : ∀ (n : Nat) (d : D) (g : G), treeD n d → R__law_same n [d, d] g = .ok (.bl true) g
  | 0, _, _, h => h.elim
  | n + 1, d, g, h => by
    have ih := fun d h => same_refl n d g h
    have hc : ∀ (env : Env) (xs : List D), 3 < env.length → (∀ x ∈ xs, treeD n x) → compF (gTupF (gConss (gSet 2) (gConss (gSet 3) gNils)) 2) fYes (fCall (R__law_same n) (fConsA (fVar 2) (fConsA (fVar 3) fNilA))) env (zipD xs xs) g = .ok ((zipD xs xs).map fun _ => D.bl true) g := fun env xs he hx =>
      compF_pure (fun _ => D.bl true) _ fun d hd => by
        obtain ⟨x, hxm, rfl⟩ := mem_zipSelf hd
        refine ⟨(env.set 2 (.val x)).set 3 (.val x), ?_, rfl, ?_⟩
        · have e2 : env[2]? = some env[2] := List.getElem?_eq_getElem (by omega)
          have e3 : (env.set 2 (.val x))[3]? = some env[3] := by rw [List.getElem?_set_ne (by decide)]; exact List.getElem?_eq_getElem he
          simp only [gTupF, gConss, gSet, gNils, List.length_cons, List.length_nil, e2, e3, Option.bind_some, if_true]
        · refine wR_eq ?_
          have e3 : ((env.set 2 (.val x)).set 3 (.val x))[3]? = some (.val x) := List.getElem?_set_self (by simpa using he)
          have e2 : ((env.set 2 (.val x)).set 3 (.val x))[2]? = some (.val x) := by rw [List.getElem?_set_ne (by decide)]; exact List.getElem?_set_self (by omega)
          simp only [wR_ok, wR_stuck, wR_exc, wR_bind, wR_var, wR_c, wR_1, wR_2, wR_nilA, wR_consA, wR_ite, wR_tup, wR_lst, wR_cellL, wR_asB, wR_test, wR_andT, wR_orT, wR_notT, onB_bl, wR_andV, wR_orV, wR_notV, wR_if, wR_call, wR_chain, wR_slice, wR_noPart, wR_part, wR_okO, wS_next, wS_fNext, wS_seq, wS_ret, wS_retN, wS_expr, wS_asg, wO_set, wO_some, wO_nils, wO_conss, wO_tup, wS_if, wS_for, wS_store, wS_par, on1_e, on2_e, onI_e, wR_range1, wR_range2, onSeq_some, wR_seqI, wR_zip, wR_enum, wR_lc, wR_yes, wR_sub, wR_add, wR_mul, wR_mod, wR_div, wR_pow, wR_neg, wR_lt, wR_le, wR_gt, wR_ge, wR_abs, wR_intC, wR_eqI, wR_eqS, wR_eqB, wR_isN, wR_lenL, wR_lenT, wR_listL, wR_listT, wR_tupL, wR_tupT, onO_some, wR_ixL, wR_ixT, sl_tup, sl_lst, sl_scr, isi_non, sub_non_int, sub_non_bool, sub_non_str, sub_non_tuple, sub_non_list, sub_non_dict, isi_bl, sub_bl_int, sub_bl_bool, sub_bl_str, sub_bl_tuple, sub_bl_list, sub_bl_dict, isi_int, sub_int_int, sub_int_bool, sub_int_str, sub_int_tuple, sub_int_list, sub_int_dict, isi_str, sub_str_int, sub_str_bool, sub_str_str, sub_str_tuple, sub_str_list, sub_str_dict, isi_tup, sub_tup_int, sub_tup_bool, sub_tup_str, sub_tup_tuple, sub_tup_list, sub_tup_dict, isi_lst, sub_lst_int, sub_lst_bool, sub_lst_str, sub_lst_tuple, sub_lst_list, sub_lst_dict, isi_dct, sub_dct_int, sub_dct_bool, sub_dct_str, sub_dct_tuple, sub_dct_list, sub_dct_dict, List.any_cons, List.any_nil, Bool.or_false, Bool.or_true, Bool.false_or, Bool.true_or, wR_addT, wR_addL, wO_star1, wR_inK, wR_inKI, wR_ixK, wR_ixKI, lookK_hit, lookK_nil, Option.isSome_some, Option.isSome_none, seqF_tup, seqF_lst, seqF_scr, sz0, sz1, sz2, sz3, sz4, sz5, sz6, sz7, sz8, sz9, sz10, sz11, sz12, sz13, sz14, sz15, sz16, startE, isN, List.length_cons, List.length_nil, List.map_cons, List.map_nil, List.cons_append, List.nil_append, List.getElem?_cons_zero, List.getElem?_cons_succ, List.set_cons_zero, List.set_cons_succ, List.reduceReplicate, Nat.reduceAdd, Nat.reduceSub, Nat.zero_add, Option.map_some, decide_eq_true_eq, Bool.false_eq_true, Bool.not_true, Bool.not_false, if_false, if_true, true_and, and_true, e2, e3, eq_wR (ih x (hx x hxm))]
    refine wR_eq ?_
    show wR (bodyF 2 4 (b__law_same (R__law_same n)) [d, d] g) _ _
    unfold b__law_same
    have hz : ∀ xs : List D, (zipD xs xs).length = xs.length := fun xs => by rw [zipD_length]; omega
    cases d <;> first | exact h.elim | skip
    all_goals first | (simp [wR_body, wR_ok, wR_stuck, wR_exc, wR_bind, wR_var, wR_c, wR_1, wR_2, wR_nilA, wR_consA, wR_ite, wR_tup, wR_lst, wR_cellL, wR_asB, wR_test, wR_andT, wR_orT, wR_notT, onB_bl, wR_andV, wR_orV, wR_notV, wR_if, wR_call, wR_chain, wR_slice, wR_noPart, wR_part, wR_okO, wS_next, wS_fNext, wS_seq, wS_ret, wS_retN, wS_expr, wS_asg, wO_set, wO_some, wO_nils, wO_conss, wO_tup, wS_if, wS_for, wS_store, wS_par, on1_e, on2_e, onI_e, wR_range1, wR_range2, onSeq_some, wR_seqI, wR_zip, wR_enum, wR_lc, wR_yes, wR_sub, wR_add, wR_mul, wR_mod, wR_div, wR_pow, wR_neg, wR_lt, wR_le, wR_gt, wR_ge, wR_abs, wR_intC, wR_eqI, wR_eqS, wR_eqB, wR_isN, wR_lenL, wR_lenT, wR_listL, wR_listT, wR_tupL, wR_tupT, onO_some, wR_ixL, wR_ixT, sl_tup, sl_lst, sl_scr, isi_non, sub_non_int, sub_non_bool, sub_non_str, sub_non_tuple, sub_non_list, sub_non_dict, isi_bl, sub_bl_int, sub_bl_bool, sub_bl_str, sub_bl_tuple, sub_bl_list, sub_bl_dict, isi_int, sub_int_int, sub_int_bool, sub_int_str, sub_int_tuple, sub_int_list, sub_int_dict, isi_str, sub_str_int, sub_str_bool, sub_str_str, sub_str_tuple, sub_str_list, sub_str_dict, isi_tup, sub_tup_int, sub_tup_bool, sub_tup_str, sub_tup_tuple, sub_tup_list, sub_tup_dict, isi_lst, sub_lst_int, sub_lst_bool, sub_lst_str, sub_lst_tuple, sub_lst_list, sub_lst_dict, isi_dct, sub_dct_int, sub_dct_bool, sub_dct_str, sub_dct_tuple, sub_dct_list, sub_dct_dict, List.any_cons, List.any_nil, Bool.or_false, Bool.or_true, Bool.false_or, Bool.true_or, wR_addT, wR_addL, wO_star1, wR_inK, wR_inKI, wR_ixK, wR_ixKI, lookK_hit, lookK_nil, Option.isSome_some, Option.isSome_none, seqF_tup, seqF_lst, seqF_scr, sz0, sz1, sz2, sz3, sz4, sz5, sz6, sz7, sz8, sz9, sz10, sz11, sz12, sz13, sz14, sz15, sz16, startE, isN, List.length_cons, List.length_nil, List.map_cons, List.map_nil, List.cons_append, List.nil_append, List.getElem?_cons_zero, List.getElem?_cons_succ, List.set_cons_zero, List.set_cons_succ, List.reduceReplicate, Nat.reduceAdd, Nat.reduceSub, Nat.zero_add, Option.map_some, decide_eq_true_eq, Bool.false_eq_true, Bool.not_true, Bool.not_false, if_false, if_true, true_and, and_true]; done) | skip
    · rename_i xs
      simp (decide := true) only [wR_body, wR_ok, wR_stuck, wR_exc, wR_bind, wR_var, wR_c, wR_1, wR_2, wR_nilA, wR_consA, wR_ite, wR_tup, wR_lst, wR_cellL, wR_asB, wR_test, wR_andT, wR_orT, wR_notT, onB_bl, wR_andV, wR_orV, wR_notV, wR_if, wR_call, wR_chain, wR_slice, wR_noPart, wR_part, wR_okO, wS_next, wS_fNext, wS_seq, wS_ret, wS_retN, wS_expr, wS_asg, wO_set, wO_some, wO_nils, wO_conss, wO_tup, wS_if, wS_for, wS_store, wS_par, on1_e, on2_e, onI_e, wR_range1, wR_range2, onSeq_some, wR_seqI, wR_zip, wR_enum, wR_lc, wR_yes, wR_sub, wR_add, wR_mul, wR_mod, wR_div, wR_pow, wR_neg, wR_lt, wR_le, wR_gt, wR_ge, wR_abs, wR_intC, wR_eqI, wR_eqS, wR_eqB, wR_isN, wR_lenL, wR_lenT, wR_listL, wR_listT, wR_tupL, wR_tupT, onO_some, wR_ixL, wR_ixT, sl_tup, sl_lst, sl_scr, isi_non, sub_non_int, sub_non_bool, sub_non_str, sub_non_tuple, sub_non_list, sub_non_dict, isi_bl, sub_bl_int, sub_bl_bool, sub_bl_str, sub_bl_tuple, sub_bl_list, sub_bl_dict, isi_int, sub_int_int, sub_int_bool, sub_int_str, sub_int_tuple, sub_int_list, sub_int_dict, isi_str, sub_str_int, sub_str_bool, sub_str_str, sub_str_tuple, sub_str_list, sub_str_dict, isi_tup, sub_tup_int, sub_tup_bool, sub_tup_str, sub_tup_tuple, sub_tup_list, sub_tup_dict, isi_lst, sub_lst_int, sub_lst_bool, sub_lst_str, sub_lst_tuple, sub_lst_list, sub_lst_dict, isi_dct, sub_dct_int, sub_dct_bool, sub_dct_str, sub_dct_tuple, sub_dct_list, sub_dct_dict, List.any_cons, List.any_nil, Bool.or_false, Bool.or_true, Bool.false_or, Bool.true_or, wR_addT, wR_addL, wO_star1, wR_inK, wR_inKI, wR_ixK, wR_ixKI, lookK_hit, lookK_nil, Option.isSome_some, Option.isSome_none, seqF_tup, seqF_lst, seqF_scr, sz0, sz1, sz2, sz3, sz4, sz5, sz6, sz7, sz8, sz9, sz10, sz11, sz12, sz13, sz14, sz15, sz16, startE, isN, List.length_cons, List.length_nil, List.map_cons, List.map_nil, List.cons_append, List.nil_append, List.getElem?_cons_zero, List.getElem?_cons_succ, List.set_cons_zero, List.set_cons_succ, List.reduceReplicate, Nat.reduceAdd, Nat.reduceSub, Nat.zero_add, Option.map_some, decide_eq_true_eq, Bool.false_eq_true, Bool.not_true, Bool.not_false, if_false, if_true, true_and, and_true, hz]
      refine ⟨h.1, ?_⟩
      rw [eq_wR (hc _ xs (by simp [wipeE]) h.2), wR_all_true (n := 0)]
      exact ⟨rfl, rfl⟩
    · rename_i xs
      simp (decide := true) only [wR_body, wR_ok, wR_stuck, wR_exc, wR_bind, wR_var, wR_c, wR_1, wR_2, wR_nilA, wR_consA, wR_ite, wR_tup, wR_lst, wR_cellL, wR_asB, wR_test, wR_andT, wR_orT, wR_notT, onB_bl, wR_andV, wR_orV, wR_notV, wR_if, wR_call, wR_chain, wR_slice, wR_noPart, wR_part, wR_okO, wS_next, wS_fNext, wS_seq, wS_ret, wS_retN, wS_expr, wS_asg, wO_set, wO_some, wO_nils, wO_conss, wO_tup, wS_if, wS_for, wS_store, wS_par, on1_e, on2_e, onI_e, wR_range1, wR_range2, onSeq_some, wR_seqI, wR_zip, wR_enum, wR_lc, wR_yes, wR_sub, wR_add, wR_mul, wR_mod, wR_div, wR_pow, wR_neg, wR_lt, wR_le, wR_gt, wR_ge, wR_abs, wR_intC, wR_eqI, wR_eqS, wR_eqB, wR_isN, wR_lenL, wR_lenT, wR_listL, wR_listT, wR_tupL, wR_tupT, onO_some, wR_ixL, wR_ixT, sl_tup, sl_lst, sl_scr, isi_non, sub_non_int, sub_non_bool, sub_non_str, sub_non_tuple, sub_non_list, sub_non_dict, isi_bl, sub_bl_int, sub_bl_bool, sub_bl_str, sub_bl_tuple, sub_bl_list, sub_bl_dict, isi_int, sub_int_int, sub_int_bool, sub_int_str, sub_int_tuple, sub_int_list, sub_int_dict, isi_str, sub_str_int, sub_str_bool, sub_str_str, sub_str_tuple, sub_str_list, sub_str_dict, isi_tup, sub_tup_int, sub_tup_bool, sub_tup_str, sub_tup_tuple, sub_tup_list, sub_tup_dict, isi_lst, sub_lst_int, sub_lst_bool, sub_lst_str, sub_lst_tuple, sub_lst_list, sub_lst_dict, isi_dct, sub_dct_int, sub_dct_bool, sub_dct_str, sub_dct_tuple, sub_dct_list, sub_dct_dict, List.any_cons, List.any_nil, Bool.or_false, Bool.or_true, Bool.false_or, Bool.true_or, wR_addT, wR_addL, wO_star1, wR_inK, wR_inKI, wR_ixK, wR_ixKI, lookK_hit, lookK_nil, Option.isSome_some, Option.isSome_none, seqF_tup, seqF_lst, seqF_scr, sz0, sz1, sz2, sz3, sz4, sz5, sz6, sz7, sz8, sz9, sz10, sz11, sz12, sz13, sz14, sz15, sz16, startE, isN, List.length_cons, List.length_nil, List.map_cons, List.map_nil, List.cons_append, List.nil_append, List.getElem?_cons_zero, List.getElem?_cons_succ, List.set_cons_zero, List.set_cons_succ, List.reduceReplicate, Nat.reduceAdd, Nat.reduceSub, Nat.zero_add, Option.map_some, decide_eq_true_eq, Bool.false_eq_true, Bool.not_true, Bool.not_false, if_false, if_true, true_and, and_true, hz]
      refine ⟨h.1, ?_⟩
      rw [eq_wR (hc _ xs (by simp [wipeE]) h.2), wR_all_true (n := 0)]
      exact ⟨rfl, rfl⟩
theorem bag_ok (ns : List Int) (g : G) : wR (F__law_bag [.scr ns] g) (fun d g' => d = .ref g.length ∧ ∃ c, BagC c ∧ g' = g ++ [c]) (fun _ _ => False) := by
  unfold F__law_bag b__law_bag
  rw [wR_body]
  refine ⟨rfl, ?_⟩
  simp only [wR_ok, wR_stuck, wR_exc, wR_bind, wR_var, wR_c, wR_1, wR_2, wR_nilA, wR_consA, wR_ite, wR_tup, wR_lst, wR_cellL, wR_asB, wR_test, wR_andT, wR_orT, wR_notT, onB_bl, wR_andV, wR_orV, wR_notV, wR_if, wR_call, wR_chain, wR_slice, wR_noPart, wR_part, wR_okO, wS_next, wS_fNext, wS_seq, wS_ret, wS_retN, wS_expr, wS_asg, wO_set, wO_some, wO_nils, wO_conss, wO_tup, wS_if, wS_for, wS_store, wS_par, on1_e, on2_e, onI_e, wR_range1, wR_range2, onSeq_some, wR_seqI, wR_zip, wR_enum, wR_lc, wR_yes, wR_sub, wR_add, wR_mul, wR_mod, wR_div, wR_pow, wR_neg, wR_lt, wR_le, wR_gt, wR_ge, wR_abs, wR_intC, wR_eqI, wR_eqS, wR_eqB, wR_isN, wR_lenL, wR_lenT, wR_listL, wR_listT, wR_tupL, wR_tupT, onO_some, wR_ixL, wR_ixT, sl_tup, sl_lst, sl_scr, isi_non, sub_non_int, sub_non_bool, sub_non_str, sub_non_tuple, sub_non_list, sub_non_dict, isi_bl, sub_bl_int, sub_bl_bool, sub_bl_str, sub_bl_tuple, sub_bl_list, sub_bl_dict, isi_int, sub_int_int, sub_int_bool, sub_int_str, sub_int_tuple, sub_int_list, sub_int_dict, isi_str, sub_str_int, sub_str_bool, sub_str_str, sub_str_tuple, sub_str_list, sub_str_dict, isi_tup, sub_tup_int, sub_tup_bool, sub_tup_str, sub_tup_tuple, sub_tup_list, sub_tup_dict, isi_lst, sub_lst_int, sub_lst_bool, sub_lst_str, sub_lst_tuple, sub_lst_list, sub_lst_dict, isi_dct, sub_dct_int, sub_dct_bool, sub_dct_str, sub_dct_tuple, sub_dct_list, sub_dct_dict, List.any_cons, List.any_nil, Bool.or_false, Bool.or_true, Bool.false_or, Bool.true_or, wR_addT, wR_addL, wO_star1, wR_inK, wR_inKI, wR_ixK, wR_ixKI, lookK_hit, lookK_nil, Option.isSome_some, Option.isSome_none, seqF_tup, seqF_lst, seqF_scr, sz0, sz1, sz2, sz3, sz4, sz5, sz6, sz7, sz8, sz9, sz10, sz11, sz12, sz13, sz14, sz15, sz16, startE, isN, List.length_cons, List.length_nil, List.map_cons, List.map_nil, List.cons_append, List.nil_append, List.getElem?_cons_zero, List.getElem?_cons_succ, List.set_cons_zero, List.set_cons_succ, List.reduceReplicate, Nat.reduceAdd, Nat.reduceSub, Nat.zero_add, Option.map_some, decide_eq_true_eq, Bool.false_eq_true, Bool.not_true, Bool.not_false, if_false, if_true, true_and, and_true]
  exact ⟨_, bag_new ns, rfl⟩
end FL

/-! PK36: asks that meet -/
namespace FL
open PySem PySem.Spec PyProof.Rows L2 FR
/-- a cell of a shape around a point -/
inductive CellD (p : Pt) : D → Prop
  | gap (gr on : Int) : (0 ≤ gr ∧ gr < p.gaps.length) → (0 ≤ on ∧ on < p.keys.length) → CellD p (.tup [.str "gap", .int gr, .int on])
  | key (gr on st h n : Int) : (0 ≤ gr ∧ gr < p.gaps.length) → (0 ≤ on ∧ on < p.keys.length) → CellD p (.tup [.str "key", .int gr, .int on, .int st, .int h, .int n])
def meetL (p : Pt) (ks : List Str) (gr on : Int) : List D := (ks.filter fun k => p.lets k 0 gr on).map D.str
theorem compF_filter {ft : D → G → Env → Option Env} {fif : Env → G → Res Bool} {fe : Env → G → Res D} {env : Env} {g : G} (q : Str → Bool) : ∀ xs : List Str, (∀ x ∈ xs, ∃ e, ft (.str x) g env = some e ∧ fif e g = .ok (q x) g ∧ fe e g = .ok (.str x) g) → compF ft fif fe env (xs.map D.str) g = .ok ((xs.filter q).map D.str) g
  | [], _ => rfl
  | d :: ds, h => by
    obtain ⟨e, h1, h2, h3⟩ := h d (List.mem_cons_self ..)
    have h4 := compF_filter q ds fun x hx => h x (List.mem_cons_of_mem _ hx)
    cases e2 : q d with
    | true => rw [e2] at h2; simp only [List.map_cons, compF, h1, h2, h3, h4, List.filter_cons, e2, if_true]
    | false => rw [e2] at h2; simp only [List.map_cons, compF, h1, h2, h3, h4, List.filter_cons, e2, Bool.false_eq_true, if_false]
theorem ks_len (ks : List Str) (h : ks.length ≤ 4) : (ks.map D.str).length ≤ sizeLine := by
  rw [List.length_map]; exact Nat.le_trans h (by decide)
def psL : List Str := ["put", "strike"]
theorem ps_kind : ∀ k ∈ psL, k ∈ kindsL := by simp [psL, kindsL]
theorem put_kind : ("put" : Str) ∈ kindsL := by simp [kindsL]
def meetP (p : Pt) : D → List D
  | .tup [_, .int gr, .int on] => if p.lets "put" 2 gr on = true then [.str "put"] else []
  | .tup [_, .int gr, .int on, .int st, _, _] => meetL p (if st = 1 then kindsL else psL) gr on
  | _ => []
theorem wR_lcG {out : List D → G → Res D} {fi : Env → G → Res (List D)} {ft : D → G → Env → Option Env} {fif : Env → G → Res Bool} {fe : Env → G → Res D} {vs : List Nat} {env : Env} {g : G} {Q : D → G → Prop} {X : Exn → G → Prop} : wR (fLcG out fi ft fif fe vs env g) Q X = wR (fi env g) (fun ds g => ds.length ≤ sizeLine ∧ (match compF ft fif fe (wipeE env vs) ds g with | .ok ys g => wR (out ys g) Q X | _ => False)) X := by
  unfold fLcG
  simp only [wR_bind]
  congr 1; funext ds g
  split
  · rename_i h
    simp only [h, true_and]
    cases compF ft fif fe (wipeE env vs) ds g <;> rfl
  · rename_i h
    simp only [h, false_and]; rfl
theorem meet_eq {p : Pt} (hp : p.Ok) {c : D} (hc : CellD p c) (g : G) : F_meeting_kinds [p.bookD, c] g = .ok (.ref g.length) (g ++ [.lst (meetP p c)]) := by
  refine wR_eq ?_
  unfold F_meeting_kinds b_meeting_kinds
  have kL : K_KINDS = .tup (kindsL.map D.str) := rfl
  cases hc with
  | gap gr on hgr hon =>
    simp -implicitDefEqProofs only [wR_body, wR_ok, wR_stuck, wR_exc, wR_bind, wR_var, wR_c, wR_1, wR_2, wR_nilA, wR_consA, wR_ite, wR_tup, wR_lst, wR_cellL, wR_asB, wR_test, wR_andT, wR_orT, wR_notT, onB_bl, wR_andV, wR_orV, wR_notV, wR_if, wR_call, wR_chain, wR_slice, wR_noPart, wR_part, wR_okO, wS_next, wS_fNext, wS_seq, wS_ret, wS_retN, wS_expr, wS_asg, wO_set, wO_some, wO_nils, wO_conss, wO_tup, wS_if, wS_for, wS_store, wS_par, on1_e, on2_e, onI_e, wR_range1, wR_range2, onSeq_some, wR_seqI, wR_zip, wR_enum, wR_lc, wR_yes, wR_sub, wR_add, wR_mul, wR_mod, wR_div, wR_pow, wR_neg, wR_lt, wR_le, wR_gt, wR_ge, wR_abs, wR_intC, wR_eqI, wR_eqS, wR_eqB, wR_isN, wR_lenL, wR_lenT, wR_listL, wR_listT, wR_tupL, wR_tupT, onO_some, wR_ixL, wR_ixT, sl_tup, sl_lst, sl_scr, isi_non, sub_non_int, sub_non_bool, sub_non_str, sub_non_tuple, sub_non_list, sub_non_dict, isi_bl, sub_bl_int, sub_bl_bool, sub_bl_str, sub_bl_tuple, sub_bl_list, sub_bl_dict, isi_int, sub_int_int, sub_int_bool, sub_int_str, sub_int_tuple, sub_int_list, sub_int_dict, isi_str, sub_str_int, sub_str_bool, sub_str_str, sub_str_tuple, sub_str_list, sub_str_dict, isi_tup, sub_tup_int, sub_tup_bool, sub_tup_str, sub_tup_tuple, sub_tup_list, sub_tup_dict, isi_lst, sub_lst_int, sub_lst_bool, sub_lst_str, sub_lst_tuple, sub_lst_list, sub_lst_dict, isi_dct, sub_dct_int, sub_dct_bool, sub_dct_str, sub_dct_tuple, sub_dct_list, sub_dct_dict, List.any_cons, List.any_nil, Bool.or_false, Bool.or_true, Bool.false_or, Bool.true_or, wR_addT, wR_addL, wO_star1, wR_inK, wR_inKI, wR_ixK, wR_ixKI, lookK_hit, lookK_nil, Option.isSome_some, Option.isSome_none, seqF_tup, seqF_lst, seqF_scr, sz0, sz1, sz2, sz3, sz4, sz5, sz6, sz7, sz8, sz9, sz10, sz11, sz12, sz13, sz14, sz15, sz16, startE, isN, List.length_cons, List.length_nil, List.map_cons, List.map_nil, List.cons_append, List.nil_append, List.getElem?_cons_zero, List.getElem?_cons_succ, List.set_cons_zero, List.set_cons_succ, List.reduceReplicate, Nat.reduceAdd, Nat.reduceSub, Nat.zero_add, Option.map_some, decide_eq_true_eq, Bool.false_eq_true, Bool.not_true, Bool.not_false, if_false, if_true, true_and, and_true, atI_zero, eq_wR (letsp_eq hp put_kind hgr hon _ _ _), meetP]
    cases h : p.lets "put" 2 gr on <;> simp -implicitDefEqProofs only [wR_ok, wR_stuck, wR_exc, wR_bind, wR_var, wR_c, wR_1, wR_2, wR_nilA, wR_consA, wR_ite, wR_tup, wR_lst, wR_cellL, wR_asB, wR_test, wR_andT, wR_orT, wR_notT, onB_bl, wR_andV, wR_orV, wR_notV, wR_if, wR_call, wR_chain, wR_slice, wR_noPart, wR_part, wR_okO, wS_next, wS_fNext, wS_seq, wS_ret, wS_retN, wS_expr, wS_asg, wO_set, wO_some, wO_nils, wO_conss, wO_tup, wS_if, wS_for, wS_store, wS_par, on1_e, on2_e, onI_e, wR_range1, wR_range2, onSeq_some, wR_seqI, wR_zip, wR_enum, wR_lc, wR_yes, wR_sub, wR_add, wR_mul, wR_mod, wR_div, wR_pow, wR_neg, wR_lt, wR_le, wR_gt, wR_ge, wR_abs, wR_intC, wR_eqI, wR_eqS, wR_eqB, wR_isN, wR_lenL, wR_lenT, wR_listL, wR_listT, wR_tupL, wR_tupT, onO_some, wR_ixL, wR_ixT, sl_tup, sl_lst, sl_scr, isi_non, sub_non_int, sub_non_bool, sub_non_str, sub_non_tuple, sub_non_list, sub_non_dict, isi_bl, sub_bl_int, sub_bl_bool, sub_bl_str, sub_bl_tuple, sub_bl_list, sub_bl_dict, isi_int, sub_int_int, sub_int_bool, sub_int_str, sub_int_tuple, sub_int_list, sub_int_dict, isi_str, sub_str_int, sub_str_bool, sub_str_str, sub_str_tuple, sub_str_list, sub_str_dict, isi_tup, sub_tup_int, sub_tup_bool, sub_tup_str, sub_tup_tuple, sub_tup_list, sub_tup_dict, isi_lst, sub_lst_int, sub_lst_bool, sub_lst_str, sub_lst_tuple, sub_lst_list, sub_lst_dict, isi_dct, sub_dct_int, sub_dct_bool, sub_dct_str, sub_dct_tuple, sub_dct_list, sub_dct_dict, List.any_cons, List.any_nil, Bool.or_false, Bool.or_true, Bool.false_or, Bool.true_or, wR_addT, wR_addL, wO_star1, wR_inK, wR_inKI, wR_ixK, wR_ixKI, lookK_hit, lookK_nil, Option.isSome_some, Option.isSome_none, seqF_tup, seqF_lst, seqF_scr, sz0, sz1, sz2, sz3, sz4, sz5, sz6, sz7, sz8, sz9, sz10, sz11, sz12, sz13, sz14, sz15, sz16, startE, isN, List.length_cons, List.length_nil, List.map_cons, List.map_nil, List.cons_append, List.nil_append, List.getElem?_cons_zero, List.getElem?_cons_succ, List.set_cons_zero, List.set_cons_succ, List.reduceReplicate, Nat.reduceAdd, Nat.reduceSub, Nat.zero_add, Option.map_some, decide_eq_true_eq, Bool.false_eq_true, Bool.not_true, Bool.not_false, if_false, if_true, true_and, and_true] <;> exact ⟨rfl, rfl⟩
  | key gr on st h n hgr hon =>
    have ne : ¬ (("key" : Str) = "gap") := by decide
    have at3 : ∀ a b c d e f : D, atI [a, b, c, d, e, f] 3 = some d := fun _ _ _ _ _ _ => rfl
    have comp : ∀ (ks : List Str) (env : Env) (g : G), (∀ k ∈ ks, k ∈ kindsL) → env.length = 4 → env[0]? = some (.val p.bookD) → env[1]? = some (.val (.tup [.str "key", .int gr, .int on, .int st, .int h, .int n])) →
        compF (gSet 3) (fTest (fCall F_lets_meet (fConsA (fVar 0) (fConsA (fVar 3) (fConsA (fVar 1) fNilA))))) (fVar 3) (wipeE env [3]) (ks.map D.str) g = .ok (meetL p ks gr on) g := fun ks env g hk hl e0 e1 => by
      refine compF_filter _ ks fun k hkk => ⟨_, gSet_at (by simp only [wipeE]; rw [List.length_set]; omega), ?_, ?_⟩
      · have f0 : ((wipeE env [3]).set 3 (.val (.str k)))[0]? = some (.val p.bookD) := by simp only [wipeE]; rw [List.getElem?_set_ne (by decide), List.getElem?_set_ne (by decide)]; exact e0
        have f1 : ((wipeE env [3]).set 3 (.val (.str k)))[1]? = some (.val (.tup [.str "key", .int gr, .int on, .int st, .int h, .int n])) := by simp only [wipeE]; rw [List.getElem?_set_ne (by decide), List.getElem?_set_ne (by decide)]; exact e1
        have f3 : ((wipeE env [3]).set 3 (.val (.str k)))[3]? = some (.val (.str k)) := by simp only [wipeE]; rw [List.getElem?_set_self (by rw [List.length_set]; omega)]
        refine wR_eq ?_
        simp -implicitDefEqProofs only [wR_ok, wR_stuck, wR_exc, wR_bind, wR_var, wR_c, wR_1, wR_2, wR_nilA, wR_consA, wR_ite, wR_tup, wR_lst, wR_cellL, wR_asB, wR_test, wR_andT, wR_orT, wR_notT, onB_bl, wR_andV, wR_orV, wR_notV, wR_if, wR_call, wR_chain, wR_slice, wR_noPart, wR_part, wR_okO, wS_next, wS_fNext, wS_seq, wS_ret, wS_retN, wS_expr, wS_asg, wO_set, wO_some, wO_nils, wO_conss, wO_tup, wS_if, wS_for, wS_store, wS_par, on1_e, on2_e, onI_e, wR_range1, wR_range2, onSeq_some, wR_seqI, wR_zip, wR_enum, wR_lc, wR_yes, wR_sub, wR_add, wR_mul, wR_mod, wR_div, wR_pow, wR_neg, wR_lt, wR_le, wR_gt, wR_ge, wR_abs, wR_intC, wR_eqI, wR_eqS, wR_eqB, wR_isN, wR_lenL, wR_lenT, wR_listL, wR_listT, wR_tupL, wR_tupT, onO_some, wR_ixL, wR_ixT, sl_tup, sl_lst, sl_scr, isi_non, sub_non_int, sub_non_bool, sub_non_str, sub_non_tuple, sub_non_list, sub_non_dict, isi_bl, sub_bl_int, sub_bl_bool, sub_bl_str, sub_bl_tuple, sub_bl_list, sub_bl_dict, isi_int, sub_int_int, sub_int_bool, sub_int_str, sub_int_tuple, sub_int_list, sub_int_dict, isi_str, sub_str_int, sub_str_bool, sub_str_str, sub_str_tuple, sub_str_list, sub_str_dict, isi_tup, sub_tup_int, sub_tup_bool, sub_tup_str, sub_tup_tuple, sub_tup_list, sub_tup_dict, isi_lst, sub_lst_int, sub_lst_bool, sub_lst_str, sub_lst_tuple, sub_lst_list, sub_lst_dict, isi_dct, sub_dct_int, sub_dct_bool, sub_dct_str, sub_dct_tuple, sub_dct_list, sub_dct_dict, List.any_cons, List.any_nil, Bool.or_false, Bool.or_true, Bool.false_or, Bool.true_or, wR_addT, wR_addL, wO_star1, wR_inK, wR_inKI, wR_ixK, wR_ixKI, lookK_hit, lookK_nil, Option.isSome_some, Option.isSome_none, seqF_tup, seqF_lst, seqF_scr, sz0, sz1, sz2, sz3, sz4, sz5, sz6, sz7, sz8, sz9, sz10, sz11, sz12, sz13, sz14, sz15, sz16, startE, isN, List.length_cons, List.length_nil, List.map_cons, List.map_nil, List.cons_append, List.nil_append, List.getElem?_cons_zero, List.getElem?_cons_succ, List.set_cons_zero, List.set_cons_succ, List.reduceReplicate, Nat.reduceAdd, Nat.reduceSub, Nat.zero_add, Option.map_some, decide_eq_true_eq, Bool.false_eq_true, Bool.not_true, Bool.not_false, if_false, if_true, true_and, and_true, f0, f1, f3, eq_wR (letsm_eq hp (hk k hkk) hgr hon _ _ _)]
      · have f3 : ((wipeE env [3]).set 3 (.val (.str k)))[3]? = some (.val (.str k)) := by simp only [wipeE]; rw [List.getElem?_set_self (by rw [List.length_set]; omega)]
        refine wR_eq ?_
        simp -implicitDefEqProofs only [wR_ok, wR_stuck, wR_exc, wR_bind, wR_var, wR_c, wR_1, wR_2, wR_nilA, wR_consA, wR_ite, wR_tup, wR_lst, wR_cellL, wR_asB, wR_test, wR_andT, wR_orT, wR_notT, onB_bl, wR_andV, wR_orV, wR_notV, wR_if, wR_call, wR_chain, wR_slice, wR_noPart, wR_part, wR_okO, wS_next, wS_fNext, wS_seq, wS_ret, wS_retN, wS_expr, wS_asg, wO_set, wO_some, wO_nils, wO_conss, wO_tup, wS_if, wS_for, wS_store, wS_par, on1_e, on2_e, onI_e, wR_range1, wR_range2, onSeq_some, wR_seqI, wR_zip, wR_enum, wR_lc, wR_yes, wR_sub, wR_add, wR_mul, wR_mod, wR_div, wR_pow, wR_neg, wR_lt, wR_le, wR_gt, wR_ge, wR_abs, wR_intC, wR_eqI, wR_eqS, wR_eqB, wR_isN, wR_lenL, wR_lenT, wR_listL, wR_listT, wR_tupL, wR_tupT, onO_some, wR_ixL, wR_ixT, sl_tup, sl_lst, sl_scr, isi_non, sub_non_int, sub_non_bool, sub_non_str, sub_non_tuple, sub_non_list, sub_non_dict, isi_bl, sub_bl_int, sub_bl_bool, sub_bl_str, sub_bl_tuple, sub_bl_list, sub_bl_dict, isi_int, sub_int_int, sub_int_bool, sub_int_str, sub_int_tuple, sub_int_list, sub_int_dict, isi_str, sub_str_int, sub_str_bool, sub_str_str, sub_str_tuple, sub_str_list, sub_str_dict, isi_tup, sub_tup_int, sub_tup_bool, sub_tup_str, sub_tup_tuple, sub_tup_list, sub_tup_dict, isi_lst, sub_lst_int, sub_lst_bool, sub_lst_str, sub_lst_tuple, sub_lst_list, sub_lst_dict, isi_dct, sub_dct_int, sub_dct_bool, sub_dct_str, sub_dct_tuple, sub_dct_list, sub_dct_dict, List.any_cons, List.any_nil, Bool.or_false, Bool.or_true, Bool.false_or, Bool.true_or, wR_addT, wR_addL, wO_star1, wR_inK, wR_inKI, wR_ixK, wR_ixKI, lookK_hit, lookK_nil, Option.isSome_some, Option.isSome_none, seqF_tup, seqF_lst, seqF_scr, sz0, sz1, sz2, sz3, sz4, sz5, sz6, sz7, sz8, sz9, sz10, sz11, sz12, sz13, sz14, sz15, sz16, startE, isN, List.length_cons, List.length_nil, List.map_cons, List.map_nil, List.cons_append, List.nil_append, List.getElem?_cons_zero, List.getElem?_cons_succ, List.set_cons_zero, List.set_cons_succ, List.reduceReplicate, Nat.reduceAdd, Nat.reduceSub, Nat.zero_add, Option.map_some, decide_eq_true_eq, Bool.false_eq_true, Bool.not_true, Bool.not_false, if_false, if_true, true_and, and_true, f3]
    have lc : fLcC = fLcG fun (zs : List D) (g : G) => (Res.ok (D.ref g.length) (g ++ [Cell.lst zs]) : Res D) := rfl
    simp -implicitDefEqProofs only [wR_body, wR_ok, wR_stuck, wR_exc, wR_bind, wR_var, wR_c, wR_1, wR_2, wR_nilA, wR_consA, wR_ite, wR_tup, wR_lst, wR_cellL, wR_asB, wR_test, wR_andT, wR_orT, wR_notT, onB_bl, wR_andV, wR_orV, wR_notV, wR_if, wR_call, wR_chain, wR_slice, wR_noPart, wR_part, wR_okO, wS_next, wS_fNext, wS_seq, wS_ret, wS_retN, wS_expr, wS_asg, wO_set, wO_some, wO_nils, wO_conss, wO_tup, wS_if, wS_for, wS_store, wS_par, on1_e, on2_e, onI_e, wR_range1, wR_range2, onSeq_some, wR_seqI, wR_zip, wR_enum, wR_lc, wR_yes, wR_sub, wR_add, wR_mul, wR_mod, wR_div, wR_pow, wR_neg, wR_lt, wR_le, wR_gt, wR_ge, wR_abs, wR_intC, wR_eqI, wR_eqS, wR_eqB, wR_isN, wR_lenL, wR_lenT, wR_listL, wR_listT, wR_tupL, wR_tupT, onO_some, wR_ixL, wR_ixT, sl_tup, sl_lst, sl_scr, isi_non, sub_non_int, sub_non_bool, sub_non_str, sub_non_tuple, sub_non_list, sub_non_dict, isi_bl, sub_bl_int, sub_bl_bool, sub_bl_str, sub_bl_tuple, sub_bl_list, sub_bl_dict, isi_int, sub_int_int, sub_int_bool, sub_int_str, sub_int_tuple, sub_int_list, sub_int_dict, isi_str, sub_str_int, sub_str_bool, sub_str_str, sub_str_tuple, sub_str_list, sub_str_dict, isi_tup, sub_tup_int, sub_tup_bool, sub_tup_str, sub_tup_tuple, sub_tup_list, sub_tup_dict, isi_lst, sub_lst_int, sub_lst_bool, sub_lst_str, sub_lst_tuple, sub_lst_list, sub_lst_dict, isi_dct, sub_dct_int, sub_dct_bool, sub_dct_str, sub_dct_tuple, sub_dct_list, sub_dct_dict, List.any_cons, List.any_nil, Bool.or_false, Bool.or_true, Bool.false_or, Bool.true_or, wR_addT, wR_addL, wO_star1, wR_inK, wR_inKI, wR_ixK, wR_ixKI, lookK_hit, lookK_nil, Option.isSome_some, Option.isSome_none, seqF_tup, seqF_lst, seqF_scr, sz0, sz1, sz2, sz3, sz4, sz5, sz6, sz7, sz8, sz9, sz10, sz11, sz12, sz13, sz14, sz15, sz16, startE, isN, List.length_cons, List.length_nil, List.map_cons, List.map_nil, List.cons_append, List.nil_append, List.getElem?_cons_zero, List.getElem?_cons_succ, List.set_cons_zero, List.set_cons_succ, List.reduceReplicate, Nat.reduceAdd, Nat.reduceSub, Nat.zero_add, Option.map_some, decide_eq_true_eq, Bool.false_eq_true, Bool.not_true, Bool.not_false, if_false, if_true, true_and, and_true, atI_zero, ne, decide_false, at3, meetP, kL, lc, wR_lcG]
    by_cases hs : st = 1
    · subst hs
      simp -implicitDefEqProofs only [decide_true, wR_ok, wR_stuck, wR_exc, wR_bind, wR_var, wR_c, wR_1, wR_2, wR_nilA, wR_consA, wR_ite, wR_tup, wR_lst, wR_cellL, wR_asB, wR_test, wR_andT, wR_orT, wR_notT, onB_bl, wR_andV, wR_orV, wR_notV, wR_if, wR_call, wR_chain, wR_slice, wR_noPart, wR_part, wR_okO, wS_next, wS_fNext, wS_seq, wS_ret, wS_retN, wS_expr, wS_asg, wO_set, wO_some, wO_nils, wO_conss, wO_tup, wS_if, wS_for, wS_store, wS_par, on1_e, on2_e, onI_e, wR_range1, wR_range2, onSeq_some, wR_seqI, wR_zip, wR_enum, wR_lc, wR_yes, wR_sub, wR_add, wR_mul, wR_mod, wR_div, wR_pow, wR_neg, wR_lt, wR_le, wR_gt, wR_ge, wR_abs, wR_intC, wR_eqI, wR_eqS, wR_eqB, wR_isN, wR_lenL, wR_lenT, wR_listL, wR_listT, wR_tupL, wR_tupT, onO_some, wR_ixL, wR_ixT, sl_tup, sl_lst, sl_scr, isi_non, sub_non_int, sub_non_bool, sub_non_str, sub_non_tuple, sub_non_list, sub_non_dict, isi_bl, sub_bl_int, sub_bl_bool, sub_bl_str, sub_bl_tuple, sub_bl_list, sub_bl_dict, isi_int, sub_int_int, sub_int_bool, sub_int_str, sub_int_tuple, sub_int_list, sub_int_dict, isi_str, sub_str_int, sub_str_bool, sub_str_str, sub_str_tuple, sub_str_list, sub_str_dict, isi_tup, sub_tup_int, sub_tup_bool, sub_tup_str, sub_tup_tuple, sub_tup_list, sub_tup_dict, isi_lst, sub_lst_int, sub_lst_bool, sub_lst_str, sub_lst_tuple, sub_lst_list, sub_lst_dict, isi_dct, sub_dct_int, sub_dct_bool, sub_dct_str, sub_dct_tuple, sub_dct_list, sub_dct_dict, List.any_cons, List.any_nil, Bool.or_false, Bool.or_true, Bool.false_or, Bool.true_or, wR_addT, wR_addL, wO_star1, wR_inK, wR_inKI, wR_ixK, wR_ixKI, lookK_hit, lookK_nil, Option.isSome_some, Option.isSome_none, seqF_tup, seqF_lst, seqF_scr, sz0, sz1, sz2, sz3, sz4, sz5, sz6, sz7, sz8, sz9, sz10, sz11, sz12, sz13, sz14, sz15, sz16, startE, isN, List.length_cons, List.length_nil, List.map_cons, List.map_nil, List.cons_append, List.nil_append, List.getElem?_cons_zero, List.getElem?_cons_succ, List.set_cons_zero, List.set_cons_succ, List.reduceReplicate, Nat.reduceAdd, Nat.reduceSub, Nat.zero_add, Option.map_some, decide_eq_true_eq, Bool.false_eq_true, Bool.not_true, Bool.not_false, if_false, if_true, true_and, and_true]
      refine ⟨ks_len _ (by decide), ?_⟩
      rw [comp kindsL _ _ (fun k hk => hk) rfl rfl rfl]
      exact ⟨rfl, rfl⟩
    · simp -implicitDefEqProofs only [hs, decide_false, wR_ok, wR_stuck, wR_exc, wR_bind, wR_var, wR_c, wR_1, wR_2, wR_nilA, wR_consA, wR_ite, wR_tup, wR_lst, wR_cellL, wR_asB, wR_test, wR_andT, wR_orT, wR_notT, onB_bl, wR_andV, wR_orV, wR_notV, wR_if, wR_call, wR_chain, wR_slice, wR_noPart, wR_part, wR_okO, wS_next, wS_fNext, wS_seq, wS_ret, wS_retN, wS_expr, wS_asg, wO_set, wO_some, wO_nils, wO_conss, wO_tup, wS_if, wS_for, wS_store, wS_par, on1_e, on2_e, onI_e, wR_range1, wR_range2, onSeq_some, wR_seqI, wR_zip, wR_enum, wR_lc, wR_yes, wR_sub, wR_add, wR_mul, wR_mod, wR_div, wR_pow, wR_neg, wR_lt, wR_le, wR_gt, wR_ge, wR_abs, wR_intC, wR_eqI, wR_eqS, wR_eqB, wR_isN, wR_lenL, wR_lenT, wR_listL, wR_listT, wR_tupL, wR_tupT, onO_some, wR_ixL, wR_ixT, sl_tup, sl_lst, sl_scr, isi_non, sub_non_int, sub_non_bool, sub_non_str, sub_non_tuple, sub_non_list, sub_non_dict, isi_bl, sub_bl_int, sub_bl_bool, sub_bl_str, sub_bl_tuple, sub_bl_list, sub_bl_dict, isi_int, sub_int_int, sub_int_bool, sub_int_str, sub_int_tuple, sub_int_list, sub_int_dict, isi_str, sub_str_int, sub_str_bool, sub_str_str, sub_str_tuple, sub_str_list, sub_str_dict, isi_tup, sub_tup_int, sub_tup_bool, sub_tup_str, sub_tup_tuple, sub_tup_list, sub_tup_dict, isi_lst, sub_lst_int, sub_lst_bool, sub_lst_str, sub_lst_tuple, sub_lst_list, sub_lst_dict, isi_dct, sub_dct_int, sub_dct_bool, sub_dct_str, sub_dct_tuple, sub_dct_list, sub_dct_dict, List.any_cons, List.any_nil, Bool.or_false, Bool.or_true, Bool.false_or, Bool.true_or, wR_addT, wR_addL, wO_star1, wR_inK, wR_inKI, wR_ixK, wR_ixKI, lookK_hit, lookK_nil, Option.isSome_some, Option.isSome_none, seqF_tup, seqF_lst, seqF_scr, sz0, sz1, sz2, sz3, sz4, sz5, sz6, sz7, sz8, sz9, sz10, sz11, sz12, sz13, sz14, sz15, sz16, startE, isN, List.length_cons, List.length_nil, List.map_cons, List.map_nil, List.cons_append, List.nil_append, List.getElem?_cons_zero, List.getElem?_cons_succ, List.set_cons_zero, List.set_cons_succ, List.reduceReplicate, Nat.reduceAdd, Nat.reduceSub, Nat.zero_add, Option.map_some, decide_eq_true_eq, Bool.false_eq_true, Bool.not_true, Bool.not_false, if_false, if_true, true_and, and_true]
      have := comp psL [.val p.bookD, .val (.tup [.str "key", .int gr, .int on, .int st, .int h, .int n]), .val (.tup (psL.map D.str)), .un] g ps_kind rfl rfl rfl
      have e : [D.str "put", D.str "strike"] = psL.map D.str := rfl
      rw [e, this]
      exact ⟨rfl, rfl⟩
theorem lmeet_eq {p : Pt} (hp : p.Ok) {c : D} (hc : CellD p c) (g : G) : F__law_meeting [p.partsD, c] g = .ok (.lst (meetP p c)) g := by
  refine wR_eq ?_
  unfold F__law_meeting b__law_meeting
  cases hc with
  | gap gr on hgr hon =>
    have f2 : ∀ g, F__law_free [p.partsD, .str "put", .int 2, .int gr, .int on] g = .ok (.bl (p.lets "put" 2 gr on)) g := fun g => lfree_eq hp put_kind hgr hon g (i := 2) (.inr rfl)
    simp -implicitDefEqProofs only [wR_body, wR_ok, wR_stuck, wR_exc, wR_bind, wR_var, wR_c, wR_1, wR_2, wR_nilA, wR_consA, wR_ite, wR_tup, wR_lst, wR_cellL, wR_asB, wR_test, wR_andT, wR_orT, wR_notT, onB_bl, wR_andV, wR_orV, wR_notV, wR_if, wR_call, wR_chain, wR_slice, wR_noPart, wR_part, wR_okO, wS_next, wS_fNext, wS_seq, wS_ret, wS_retN, wS_expr, wS_asg, wO_set, wO_some, wO_nils, wO_conss, wO_tup, wS_if, wS_for, wS_store, wS_par, on1_e, on2_e, onI_e, wR_range1, wR_range2, onSeq_some, wR_seqI, wR_zip, wR_enum, wR_lc, wR_yes, wR_sub, wR_add, wR_mul, wR_mod, wR_div, wR_pow, wR_neg, wR_lt, wR_le, wR_gt, wR_ge, wR_abs, wR_intC, wR_eqI, wR_eqS, wR_eqB, wR_isN, wR_lenL, wR_lenT, wR_listL, wR_listT, wR_tupL, wR_tupT, onO_some, wR_ixL, wR_ixT, sl_tup, sl_lst, sl_scr, isi_non, sub_non_int, sub_non_bool, sub_non_str, sub_non_tuple, sub_non_list, sub_non_dict, isi_bl, sub_bl_int, sub_bl_bool, sub_bl_str, sub_bl_tuple, sub_bl_list, sub_bl_dict, isi_int, sub_int_int, sub_int_bool, sub_int_str, sub_int_tuple, sub_int_list, sub_int_dict, isi_str, sub_str_int, sub_str_bool, sub_str_str, sub_str_tuple, sub_str_list, sub_str_dict, isi_tup, sub_tup_int, sub_tup_bool, sub_tup_str, sub_tup_tuple, sub_tup_list, sub_tup_dict, isi_lst, sub_lst_int, sub_lst_bool, sub_lst_str, sub_lst_tuple, sub_lst_list, sub_lst_dict, isi_dct, sub_dct_int, sub_dct_bool, sub_dct_str, sub_dct_tuple, sub_dct_list, sub_dct_dict, List.any_cons, List.any_nil, Bool.or_false, Bool.or_true, Bool.false_or, Bool.true_or, wR_addT, wR_addL, wO_star1, wR_inK, wR_inKI, wR_ixK, wR_ixKI, lookK_hit, lookK_nil, Option.isSome_some, Option.isSome_none, seqF_tup, seqF_lst, seqF_scr, sz0, sz1, sz2, sz3, sz4, sz5, sz6, sz7, sz8, sz9, sz10, sz11, sz12, sz13, sz14, sz15, sz16, startE, isN, List.length_cons, List.length_nil, List.map_cons, List.map_nil, List.cons_append, List.nil_append, List.getElem?_cons_zero, List.getElem?_cons_succ, List.set_cons_zero, List.set_cons_succ, List.reduceReplicate, Nat.reduceAdd, Nat.reduceSub, Nat.zero_add, Option.map_some, decide_eq_true_eq, Bool.false_eq_true, Bool.not_true, Bool.not_false, if_false, if_true, true_and, and_true, atI_zero, atI_one, atI_two, eq_wR (f2 _), meetP]
    cases h : p.lets "put" 2 gr on <;> simp -implicitDefEqProofs only [wR_ok, wR_stuck, wR_exc, wR_bind, wR_var, wR_c, wR_1, wR_2, wR_nilA, wR_consA, wR_ite, wR_tup, wR_lst, wR_cellL, wR_asB, wR_test, wR_andT, wR_orT, wR_notT, onB_bl, wR_andV, wR_orV, wR_notV, wR_if, wR_call, wR_chain, wR_slice, wR_noPart, wR_part, wR_okO, wS_next, wS_fNext, wS_seq, wS_ret, wS_retN, wS_expr, wS_asg, wO_set, wO_some, wO_nils, wO_conss, wO_tup, wS_if, wS_for, wS_store, wS_par, on1_e, on2_e, onI_e, wR_range1, wR_range2, onSeq_some, wR_seqI, wR_zip, wR_enum, wR_lc, wR_yes, wR_sub, wR_add, wR_mul, wR_mod, wR_div, wR_pow, wR_neg, wR_lt, wR_le, wR_gt, wR_ge, wR_abs, wR_intC, wR_eqI, wR_eqS, wR_eqB, wR_isN, wR_lenL, wR_lenT, wR_listL, wR_listT, wR_tupL, wR_tupT, onO_some, wR_ixL, wR_ixT, sl_tup, sl_lst, sl_scr, isi_non, sub_non_int, sub_non_bool, sub_non_str, sub_non_tuple, sub_non_list, sub_non_dict, isi_bl, sub_bl_int, sub_bl_bool, sub_bl_str, sub_bl_tuple, sub_bl_list, sub_bl_dict, isi_int, sub_int_int, sub_int_bool, sub_int_str, sub_int_tuple, sub_int_list, sub_int_dict, isi_str, sub_str_int, sub_str_bool, sub_str_str, sub_str_tuple, sub_str_list, sub_str_dict, isi_tup, sub_tup_int, sub_tup_bool, sub_tup_str, sub_tup_tuple, sub_tup_list, sub_tup_dict, isi_lst, sub_lst_int, sub_lst_bool, sub_lst_str, sub_lst_tuple, sub_lst_list, sub_lst_dict, isi_dct, sub_dct_int, sub_dct_bool, sub_dct_str, sub_dct_tuple, sub_dct_list, sub_dct_dict, List.any_cons, List.any_nil, Bool.or_false, Bool.or_true, Bool.false_or, Bool.true_or, wR_addT, wR_addL, wO_star1, wR_inK, wR_inKI, wR_ixK, wR_ixKI, lookK_hit, lookK_nil, Option.isSome_some, Option.isSome_none, seqF_tup, seqF_lst, seqF_scr, sz0, sz1, sz2, sz3, sz4, sz5, sz6, sz7, sz8, sz9, sz10, sz11, sz12, sz13, sz14, sz15, sz16, startE, isN, List.length_cons, List.length_nil, List.map_cons, List.map_nil, List.cons_append, List.nil_append, List.getElem?_cons_zero, List.getElem?_cons_succ, List.set_cons_zero, List.set_cons_succ, List.reduceReplicate, Nat.reduceAdd, Nat.reduceSub, Nat.zero_add, Option.map_some, decide_eq_true_eq, Bool.false_eq_true, Bool.not_true, Bool.not_false, if_false, if_true, true_and, and_true]
  | key gr on st h n hgr hon =>
    have ne : ¬ (("key" : Str) = "gap") := by decide
    have at3 : ∀ a b c d e f : D, atI [a, b, c, d, e, f] 3 = some d := fun _ _ _ _ _ _ => rfl
    have f0' : ∀ (k : Str) (g : G), k ∈ kindsL → F__law_free [p.partsD, .str k, .int 0, .int gr, .int on] g = .ok (.bl (p.lets k 0 gr on)) g := fun k g hk => lfree_eq hp hk hgr hon g (i := 0) (.inl rfl)
    have comp : ∀ (ks : List Str) (env : Env) (g : G), (∀ k ∈ ks, k ∈ kindsL) → env.length = 4 → env[0]? = some (.val p.partsD) → env[1]? = some (.val (.tup [.str "key", .int gr, .int on, .int st, .int h, .int n])) →
        compF (gSet 3) (fTest (fCall F__law_free (fConsA (fVar 0) (fConsA (fVar 3) (fConsA (fC (.int 0)) (fConsA (f2 dIx (fVar 1) (fC (.int 1))) (fConsA (f2 dIx (fVar 1) (fC (.int 2))) fNilA))))))) (fVar 3) (wipeE env [3]) (ks.map D.str) g = .ok (meetL p ks gr on) g := fun ks env g hk hl e0 e1 => by
      refine compF_filter _ ks fun k hkk => ⟨_, gSet_at (by simp only [wipeE]; rw [List.length_set]; omega), ?_, ?_⟩
      · have f0 : ((wipeE env [3]).set 3 (.val (.str k)))[0]? = some (.val p.partsD) := by simp only [wipeE]; rw [List.getElem?_set_ne (by decide), List.getElem?_set_ne (by decide)]; exact e0
        have f1 : ((wipeE env [3]).set 3 (.val (.str k)))[1]? = some (.val (.tup [.str "key", .int gr, .int on, .int st, .int h, .int n])) := by simp only [wipeE]; rw [List.getElem?_set_ne (by decide), List.getElem?_set_ne (by decide)]; exact e1
        have f3 : ((wipeE env [3]).set 3 (.val (.str k)))[3]? = some (.val (.str k)) := by simp only [wipeE]; rw [List.getElem?_set_self (by rw [List.length_set]; omega)]
        refine wR_eq ?_
        simp -implicitDefEqProofs only [wR_ok, wR_stuck, wR_exc, wR_bind, wR_var, wR_c, wR_1, wR_2, wR_nilA, wR_consA, wR_ite, wR_tup, wR_lst, wR_cellL, wR_asB, wR_test, wR_andT, wR_orT, wR_notT, onB_bl, wR_andV, wR_orV, wR_notV, wR_if, wR_call, wR_chain, wR_slice, wR_noPart, wR_part, wR_okO, wS_next, wS_fNext, wS_seq, wS_ret, wS_retN, wS_expr, wS_asg, wO_set, wO_some, wO_nils, wO_conss, wO_tup, wS_if, wS_for, wS_store, wS_par, on1_e, on2_e, onI_e, wR_range1, wR_range2, onSeq_some, wR_seqI, wR_zip, wR_enum, wR_lc, wR_yes, wR_sub, wR_add, wR_mul, wR_mod, wR_div, wR_pow, wR_neg, wR_lt, wR_le, wR_gt, wR_ge, wR_abs, wR_intC, wR_eqI, wR_eqS, wR_eqB, wR_isN, wR_lenL, wR_lenT, wR_listL, wR_listT, wR_tupL, wR_tupT, onO_some, wR_ixL, wR_ixT, sl_tup, sl_lst, sl_scr, isi_non, sub_non_int, sub_non_bool, sub_non_str, sub_non_tuple, sub_non_list, sub_non_dict, isi_bl, sub_bl_int, sub_bl_bool, sub_bl_str, sub_bl_tuple, sub_bl_list, sub_bl_dict, isi_int, sub_int_int, sub_int_bool, sub_int_str, sub_int_tuple, sub_int_list, sub_int_dict, isi_str, sub_str_int, sub_str_bool, sub_str_str, sub_str_tuple, sub_str_list, sub_str_dict, isi_tup, sub_tup_int, sub_tup_bool, sub_tup_str, sub_tup_tuple, sub_tup_list, sub_tup_dict, isi_lst, sub_lst_int, sub_lst_bool, sub_lst_str, sub_lst_tuple, sub_lst_list, sub_lst_dict, isi_dct, sub_dct_int, sub_dct_bool, sub_dct_str, sub_dct_tuple, sub_dct_list, sub_dct_dict, List.any_cons, List.any_nil, Bool.or_false, Bool.or_true, Bool.false_or, Bool.true_or, wR_addT, wR_addL, wO_star1, wR_inK, wR_inKI, wR_ixK, wR_ixKI, lookK_hit, lookK_nil, Option.isSome_some, Option.isSome_none, seqF_tup, seqF_lst, seqF_scr, sz0, sz1, sz2, sz3, sz4, sz5, sz6, sz7, sz8, sz9, sz10, sz11, sz12, sz13, sz14, sz15, sz16, startE, isN, List.length_cons, List.length_nil, List.map_cons, List.map_nil, List.cons_append, List.nil_append, List.getElem?_cons_zero, List.getElem?_cons_succ, List.set_cons_zero, List.set_cons_succ, List.reduceReplicate, Nat.reduceAdd, Nat.reduceSub, Nat.zero_add, Option.map_some, decide_eq_true_eq, Bool.false_eq_true, Bool.not_true, Bool.not_false, if_false, if_true, true_and, and_true, f0, f1, f3, atI_one, atI_two, eq_wR (f0' k _ (hk k hkk))]
      · have f3 : ((wipeE env [3]).set 3 (.val (.str k)))[3]? = some (.val (.str k)) := by simp only [wipeE]; rw [List.getElem?_set_self (by rw [List.length_set]; omega)]
        refine wR_eq ?_
        simp -implicitDefEqProofs only [wR_ok, wR_stuck, wR_exc, wR_bind, wR_var, wR_c, wR_1, wR_2, wR_nilA, wR_consA, wR_ite, wR_tup, wR_lst, wR_cellL, wR_asB, wR_test, wR_andT, wR_orT, wR_notT, onB_bl, wR_andV, wR_orV, wR_notV, wR_if, wR_call, wR_chain, wR_slice, wR_noPart, wR_part, wR_okO, wS_next, wS_fNext, wS_seq, wS_ret, wS_retN, wS_expr, wS_asg, wO_set, wO_some, wO_nils, wO_conss, wO_tup, wS_if, wS_for, wS_store, wS_par, on1_e, on2_e, onI_e, wR_range1, wR_range2, onSeq_some, wR_seqI, wR_zip, wR_enum, wR_lc, wR_yes, wR_sub, wR_add, wR_mul, wR_mod, wR_div, wR_pow, wR_neg, wR_lt, wR_le, wR_gt, wR_ge, wR_abs, wR_intC, wR_eqI, wR_eqS, wR_eqB, wR_isN, wR_lenL, wR_lenT, wR_listL, wR_listT, wR_tupL, wR_tupT, onO_some, wR_ixL, wR_ixT, sl_tup, sl_lst, sl_scr, isi_non, sub_non_int, sub_non_bool, sub_non_str, sub_non_tuple, sub_non_list, sub_non_dict, isi_bl, sub_bl_int, sub_bl_bool, sub_bl_str, sub_bl_tuple, sub_bl_list, sub_bl_dict, isi_int, sub_int_int, sub_int_bool, sub_int_str, sub_int_tuple, sub_int_list, sub_int_dict, isi_str, sub_str_int, sub_str_bool, sub_str_str, sub_str_tuple, sub_str_list, sub_str_dict, isi_tup, sub_tup_int, sub_tup_bool, sub_tup_str, sub_tup_tuple, sub_tup_list, sub_tup_dict, isi_lst, sub_lst_int, sub_lst_bool, sub_lst_str, sub_lst_tuple, sub_lst_list, sub_lst_dict, isi_dct, sub_dct_int, sub_dct_bool, sub_dct_str, sub_dct_tuple, sub_dct_list, sub_dct_dict, List.any_cons, List.any_nil, Bool.or_false, Bool.or_true, Bool.false_or, Bool.true_or, wR_addT, wR_addL, wO_star1, wR_inK, wR_inKI, wR_ixK, wR_ixKI, lookK_hit, lookK_nil, Option.isSome_some, Option.isSome_none, seqF_tup, seqF_lst, seqF_scr, sz0, sz1, sz2, sz3, sz4, sz5, sz6, sz7, sz8, sz9, sz10, sz11, sz12, sz13, sz14, sz15, sz16, startE, isN, List.length_cons, List.length_nil, List.map_cons, List.map_nil, List.cons_append, List.nil_append, List.getElem?_cons_zero, List.getElem?_cons_succ, List.set_cons_zero, List.set_cons_succ, List.reduceReplicate, Nat.reduceAdd, Nat.reduceSub, Nat.zero_add, Option.map_some, decide_eq_true_eq, Bool.false_eq_true, Bool.not_true, Bool.not_false, if_false, if_true, true_and, and_true, f3]
    simp -implicitDefEqProofs only [wR_body, wR_ok, wR_stuck, wR_exc, wR_bind, wR_var, wR_c, wR_1, wR_2, wR_nilA, wR_consA, wR_ite, wR_tup, wR_lst, wR_cellL, wR_asB, wR_test, wR_andT, wR_orT, wR_notT, onB_bl, wR_andV, wR_orV, wR_notV, wR_if, wR_call, wR_chain, wR_slice, wR_noPart, wR_part, wR_okO, wS_next, wS_fNext, wS_seq, wS_ret, wS_retN, wS_expr, wS_asg, wO_set, wO_some, wO_nils, wO_conss, wO_tup, wS_if, wS_for, wS_store, wS_par, on1_e, on2_e, onI_e, wR_range1, wR_range2, onSeq_some, wR_seqI, wR_zip, wR_enum, wR_lc, wR_yes, wR_sub, wR_add, wR_mul, wR_mod, wR_div, wR_pow, wR_neg, wR_lt, wR_le, wR_gt, wR_ge, wR_abs, wR_intC, wR_eqI, wR_eqS, wR_eqB, wR_isN, wR_lenL, wR_lenT, wR_listL, wR_listT, wR_tupL, wR_tupT, onO_some, wR_ixL, wR_ixT, sl_tup, sl_lst, sl_scr, isi_non, sub_non_int, sub_non_bool, sub_non_str, sub_non_tuple, sub_non_list, sub_non_dict, isi_bl, sub_bl_int, sub_bl_bool, sub_bl_str, sub_bl_tuple, sub_bl_list, sub_bl_dict, isi_int, sub_int_int, sub_int_bool, sub_int_str, sub_int_tuple, sub_int_list, sub_int_dict, isi_str, sub_str_int, sub_str_bool, sub_str_str, sub_str_tuple, sub_str_list, sub_str_dict, isi_tup, sub_tup_int, sub_tup_bool, sub_tup_str, sub_tup_tuple, sub_tup_list, sub_tup_dict, isi_lst, sub_lst_int, sub_lst_bool, sub_lst_str, sub_lst_tuple, sub_lst_list, sub_lst_dict, isi_dct, sub_dct_int, sub_dct_bool, sub_dct_str, sub_dct_tuple, sub_dct_list, sub_dct_dict, List.any_cons, List.any_nil, Bool.or_false, Bool.or_true, Bool.false_or, Bool.true_or, wR_addT, wR_addL, wO_star1, wR_inK, wR_inKI, wR_ixK, wR_ixKI, lookK_hit, lookK_nil, Option.isSome_some, Option.isSome_none, seqF_tup, seqF_lst, seqF_scr, sz0, sz1, sz2, sz3, sz4, sz5, sz6, sz7, sz8, sz9, sz10, sz11, sz12, sz13, sz14, sz15, sz16, startE, isN, List.length_cons, List.length_nil, List.map_cons, List.map_nil, List.cons_append, List.nil_append, List.getElem?_cons_zero, List.getElem?_cons_succ, List.set_cons_zero, List.set_cons_succ, List.reduceReplicate, Nat.reduceAdd, Nat.reduceSub, Nat.zero_add, Option.map_some, decide_eq_true_eq, Bool.false_eq_true, Bool.not_true, Bool.not_false, if_false, if_true, true_and, and_true, atI_zero, ne, decide_false, at3, meetP]
    by_cases hs : st = 1
    · subst hs
      simp -implicitDefEqProofs only [decide_true, wR_ok, wR_stuck, wR_exc, wR_bind, wR_var, wR_c, wR_1, wR_2, wR_nilA, wR_consA, wR_ite, wR_tup, wR_lst, wR_cellL, wR_asB, wR_test, wR_andT, wR_orT, wR_notT, onB_bl, wR_andV, wR_orV, wR_notV, wR_if, wR_call, wR_chain, wR_slice, wR_noPart, wR_part, wR_okO, wS_next, wS_fNext, wS_seq, wS_ret, wS_retN, wS_expr, wS_asg, wO_set, wO_some, wO_nils, wO_conss, wO_tup, wS_if, wS_for, wS_store, wS_par, on1_e, on2_e, onI_e, wR_range1, wR_range2, onSeq_some, wR_seqI, wR_zip, wR_enum, wR_lc, wR_yes, wR_sub, wR_add, wR_mul, wR_mod, wR_div, wR_pow, wR_neg, wR_lt, wR_le, wR_gt, wR_ge, wR_abs, wR_intC, wR_eqI, wR_eqS, wR_eqB, wR_isN, wR_lenL, wR_lenT, wR_listL, wR_listT, wR_tupL, wR_tupT, onO_some, wR_ixL, wR_ixT, sl_tup, sl_lst, sl_scr, isi_non, sub_non_int, sub_non_bool, sub_non_str, sub_non_tuple, sub_non_list, sub_non_dict, isi_bl, sub_bl_int, sub_bl_bool, sub_bl_str, sub_bl_tuple, sub_bl_list, sub_bl_dict, isi_int, sub_int_int, sub_int_bool, sub_int_str, sub_int_tuple, sub_int_list, sub_int_dict, isi_str, sub_str_int, sub_str_bool, sub_str_str, sub_str_tuple, sub_str_list, sub_str_dict, isi_tup, sub_tup_int, sub_tup_bool, sub_tup_str, sub_tup_tuple, sub_tup_list, sub_tup_dict, isi_lst, sub_lst_int, sub_lst_bool, sub_lst_str, sub_lst_tuple, sub_lst_list, sub_lst_dict, isi_dct, sub_dct_int, sub_dct_bool, sub_dct_str, sub_dct_tuple, sub_dct_list, sub_dct_dict, List.any_cons, List.any_nil, Bool.or_false, Bool.or_true, Bool.false_or, Bool.true_or, wR_addT, wR_addL, wO_star1, wR_inK, wR_inKI, wR_ixK, wR_ixKI, lookK_hit, lookK_nil, Option.isSome_some, Option.isSome_none, seqF_tup, seqF_lst, seqF_scr, sz0, sz1, sz2, sz3, sz4, sz5, sz6, sz7, sz8, sz9, sz10, sz11, sz12, sz13, sz14, sz15, sz16, startE, isN, List.length_cons, List.length_nil, List.map_cons, List.map_nil, List.cons_append, List.nil_append, List.getElem?_cons_zero, List.getElem?_cons_succ, List.set_cons_zero, List.set_cons_succ, List.reduceReplicate, Nat.reduceAdd, Nat.reduceSub, Nat.zero_add, Option.map_some, decide_eq_true_eq, Bool.false_eq_true, Bool.not_true, Bool.not_false, if_false, if_true, true_and, and_true, eq_wR (kinds_eq _)]
      refine ⟨ks_len _ (by decide), ?_⟩
      rw [eq_wR (comp kindsL _ _ (fun k hk => hk) rfl rfl rfl)]
      exact ⟨rfl, rfl⟩
    · simp -implicitDefEqProofs only [hs, decide_false, wR_ok, wR_stuck, wR_exc, wR_bind, wR_var, wR_c, wR_1, wR_2, wR_nilA, wR_consA, wR_ite, wR_tup, wR_lst, wR_cellL, wR_asB, wR_test, wR_andT, wR_orT, wR_notT, onB_bl, wR_andV, wR_orV, wR_notV, wR_if, wR_call, wR_chain, wR_slice, wR_noPart, wR_part, wR_okO, wS_next, wS_fNext, wS_seq, wS_ret, wS_retN, wS_expr, wS_asg, wO_set, wO_some, wO_nils, wO_conss, wO_tup, wS_if, wS_for, wS_store, wS_par, on1_e, on2_e, onI_e, wR_range1, wR_range2, onSeq_some, wR_seqI, wR_zip, wR_enum, wR_lc, wR_yes, wR_sub, wR_add, wR_mul, wR_mod, wR_div, wR_pow, wR_neg, wR_lt, wR_le, wR_gt, wR_ge, wR_abs, wR_intC, wR_eqI, wR_eqS, wR_eqB, wR_isN, wR_lenL, wR_lenT, wR_listL, wR_listT, wR_tupL, wR_tupT, onO_some, wR_ixL, wR_ixT, sl_tup, sl_lst, sl_scr, isi_non, sub_non_int, sub_non_bool, sub_non_str, sub_non_tuple, sub_non_list, sub_non_dict, isi_bl, sub_bl_int, sub_bl_bool, sub_bl_str, sub_bl_tuple, sub_bl_list, sub_bl_dict, isi_int, sub_int_int, sub_int_bool, sub_int_str, sub_int_tuple, sub_int_list, sub_int_dict, isi_str, sub_str_int, sub_str_bool, sub_str_str, sub_str_tuple, sub_str_list, sub_str_dict, isi_tup, sub_tup_int, sub_tup_bool, sub_tup_str, sub_tup_tuple, sub_tup_list, sub_tup_dict, isi_lst, sub_lst_int, sub_lst_bool, sub_lst_str, sub_lst_tuple, sub_lst_list, sub_lst_dict, isi_dct, sub_dct_int, sub_dct_bool, sub_dct_str, sub_dct_tuple, sub_dct_list, sub_dct_dict, List.any_cons, List.any_nil, Bool.or_false, Bool.or_true, Bool.false_or, Bool.true_or, wR_addT, wR_addL, wO_star1, wR_inK, wR_inKI, wR_ixK, wR_ixKI, lookK_hit, lookK_nil, Option.isSome_some, Option.isSome_none, seqF_tup, seqF_lst, seqF_scr, sz0, sz1, sz2, sz3, sz4, sz5, sz6, sz7, sz8, sz9, sz10, sz11, sz12, sz13, sz14, sz15, sz16, startE, isN, List.length_cons, List.length_nil, List.map_cons, List.map_nil, List.cons_append, List.nil_append, List.getElem?_cons_zero, List.getElem?_cons_succ, List.set_cons_zero, List.set_cons_succ, List.reduceReplicate, Nat.reduceAdd, Nat.reduceSub, Nat.zero_add, Option.map_some, decide_eq_true_eq, Bool.false_eq_true, Bool.not_true, Bool.not_false, if_false, if_true, true_and, and_true]
      have := comp psL [.val p.partsD, .val (.tup [.str "key", .int gr, .int on, .int st, .int h, .int n]), .val (.lst (psL.map D.str)), .un] g ps_kind rfl rfl rfl
      have e : [D.str "put", D.str "strike"] = psL.map D.str := rfl
      rw [e, eq_wR this]
      exact ⟨rfl, rfl⟩
end FL

/-! PK36b: the law -/
namespace FL
open PySem PySem.Spec PyProof.Rows L2 FR
theorem BagAt.app {g : G} {k : Nat} {l : List Cell} (h : BagAt g k) : BagAt (g ++ l) k := by
  obtain ⟨c, h1, h2⟩ := h
  exact ⟨c, by rw [List.getElem?_append_left (List.getElem?_eq_some_iff.mp h1).1]; exact h1, h2⟩
theorem BagAt.setne {g : G} {k n : Nat} {c : Cell} (h : BagAt g k) (hn : n ≠ k) : BagAt (g.set n c) k := by
  obtain ⟨c, h1, h2⟩ := h
  exact ⟨c, by rw [List.getElem?_set_ne hn]; exact h1, h2⟩
theorem BagAt.lt {g : G} {k : Nat} (h : BagAt g k) : k < g.length := by
  obtain ⟨c, h1, h2⟩ := h
  exact (List.getElem?_eq_some_iff.mp h1).1
theorem cell_ok {p : Pt} (hp : p.Ok) {k : Nat} {g : G} {Q : D → G → Prop} {X : Exn → G → Prop} (hb : BagAt g k) (hQ : ∀ (d : D) (c : Cell), BagC c → CellD p d → Q d (g.set k c)) : wR (F__law_cell [.ref k, p.partsD] g) Q X := by
  obtain ⟨k1, k2, _, _⟩ := tab_sq hp.k1
  obtain ⟨g1, g2, _, _⟩ := tab_sq hp.g1
  unfold F__law_cell b__law_cell
  rw [wR_body]
  refine ⟨rfl, ?_⟩
  have two : (0 : Int) < 2 := by decide
  have s8 : ∀ (d : D) (g : G) (a b c d' : D), gSet 8 d g (wipeE [Sl.val a, .val b, .val c, .val d', .un, .un, .un, .un, .un] [8]) = some [Sl.val a, .val b, .val c, .val d', .un, .un, .un, .un, .val d] := fun _ _ _ _ _ _ => rfl
  have a0 : ∀ a b c d : D, atI [a, b, c, d] 0 = some a := fun _ _ _ _ => rfl
  have a1 : ∀ a b c d : D, atI [a, b, c, d] 1 = some b := fun _ _ _ _ => rfl
  have a2 : ∀ a b c d : D, atI [a, b, c, d] 2 = some c := fun _ _ _ _ => rfl
  have a3 : ∀ a b c d : D, atI [a, b, c, d] 3 = some d := fun _ _ _ _ => rfl
  simp -implicitDefEqProofs only [wR_ok, wR_stuck, wR_exc, wR_bind, wR_var, wR_c, wR_1, wR_2, wR_nilA, wR_consA, wR_ite, wR_tup, wR_lst, wR_cellL, wR_asB, wR_test, wR_andT, wR_orT, wR_notT, onB_bl, wR_andV, wR_orV, wR_notV, wR_if, wR_call, wR_chain, wR_slice, wR_noPart, wR_part, wR_okO, wS_next, wS_fNext, wS_seq, wS_ret, wS_retN, wS_expr, wS_asg, wO_set, wO_some, wO_nils, wO_conss, wO_tup, wS_if, wS_for, wS_store, wS_par, on1_e, on2_e, onI_e, wR_range1, wR_range2, onSeq_some, wR_seqI, wR_zip, wR_enum, wR_lc, wR_yes, wR_sub, wR_add, wR_mul, wR_mod, wR_div, wR_pow, wR_neg, wR_lt, wR_le, wR_gt, wR_ge, wR_abs, wR_intC, wR_eqI, wR_eqS, wR_eqB, wR_isN, wR_lenL, wR_lenT, wR_listL, wR_listT, wR_tupL, wR_tupT, onO_some, wR_ixL, wR_ixT, sl_tup, sl_lst, sl_scr, isi_non, sub_non_int, sub_non_bool, sub_non_str, sub_non_tuple, sub_non_list, sub_non_dict, isi_bl, sub_bl_int, sub_bl_bool, sub_bl_str, sub_bl_tuple, sub_bl_list, sub_bl_dict, isi_int, sub_int_int, sub_int_bool, sub_int_str, sub_int_tuple, sub_int_list, sub_int_dict, isi_str, sub_str_int, sub_str_bool, sub_str_str, sub_str_tuple, sub_str_list, sub_str_dict, isi_tup, sub_tup_int, sub_tup_bool, sub_tup_str, sub_tup_tuple, sub_tup_list, sub_tup_dict, isi_lst, sub_lst_int, sub_lst_bool, sub_lst_str, sub_lst_tuple, sub_lst_list, sub_lst_dict, isi_dct, sub_dct_int, sub_dct_bool, sub_dct_str, sub_dct_tuple, sub_dct_list, sub_dct_dict, List.any_cons, List.any_nil, Bool.or_false, Bool.or_true, Bool.false_or, Bool.true_or, wR_addT, wR_addL, wO_star1, wR_inK, wR_inKI, wR_ixK, wR_ixKI, lookK_hit, lookK_nil, Option.isSome_some, Option.isSome_none, seqF_tup, seqF_lst, seqF_scr, sz0, sz1, sz2, sz3, sz4, sz5, sz6, sz7, sz8, sz9, sz10, sz11, sz12, sz13, sz14, sz15, sz16, startE, isN, List.length_cons, List.length_nil, List.map_cons, List.map_nil, List.cons_append, List.nil_append, List.getElem?_cons_zero, List.getElem?_cons_succ, List.set_cons_zero, List.set_cons_succ, List.reduceReplicate, Nat.reduceAdd, Nat.reduceSub, Nat.zero_add, Option.map_some, decide_eq_true_eq, Bool.false_eq_true, Bool.not_true, Bool.not_false, if_false, if_true, true_and, and_true, ip0, ip1, lenTab sqn_l, rg4, wR_comp_cons, wR_comp_nil, s8, a0, a1, a2, a3]
  refine ⟨by decide, ?_⟩
  refine pull_ok k _ _ _ _ hb (by omega) (by omega) fun x0 c0 hc0 x00 x01 => ?_
  have hb0 := hb.set hc0
  refine pull_ok k _ _ _ _ hb0 (by omega) (by omega) fun x1 c1 hc1 x10 x11 => ?_
  have hb1 := hb0.set hc1
  refine pull_ok k _ _ _ _ hb1 (by omega) (by omega) fun x2 c2 hc2 x20 x21 => ?_
  have hb2 := hb1.set hc2
  refine pull_ok k _ _ _ _ hb2 (by omega) (by omega) fun x3 c3 hc3 x30 x31 => ?_
  have hb3 := hb2.set hc3
  have gU : ∀ (a b c d y0 y1 y2 y3 : D) (g : G), gUnlF (gConss (gSet 4) (gConss (gSet 5) (gConss (gSet 6) (gConss (gSet 7) gNils)))) 4 (.lst [a, b, c, d]) g [.val y0, .val y1, .val y2, .val y3, .un, .un, .un, .un, .un] = some [.val y0, .val y1, .val y2, .val y3, .val a, .val b, .val c, .val d, .un] := fun _ _ _ _ _ _ _ _ _ => rfl
  simp -implicitDefEqProofs only [wR_ok, wR_stuck, wR_exc, wR_bind, wR_var, wR_c, wR_1, wR_2, wR_nilA, wR_consA, wR_ite, wR_tup, wR_lst, wR_cellL, wR_asB, wR_test, wR_andT, wR_orT, wR_notT, onB_bl, wR_andV, wR_orV, wR_notV, wR_if, wR_call, wR_chain, wR_slice, wR_noPart, wR_part, wR_okO, wS_next, wS_fNext, wS_seq, wS_ret, wS_retN, wS_expr, wS_asg, wO_set, wO_some, wO_nils, wO_conss, wO_tup, wS_if, wS_for, wS_store, wS_par, on1_e, on2_e, onI_e, wR_range1, wR_range2, onSeq_some, wR_seqI, wR_zip, wR_enum, wR_lc, wR_yes, wR_sub, wR_add, wR_mul, wR_mod, wR_div, wR_pow, wR_neg, wR_lt, wR_le, wR_gt, wR_ge, wR_abs, wR_intC, wR_eqI, wR_eqS, wR_eqB, wR_isN, wR_lenL, wR_lenT, wR_listL, wR_listT, wR_tupL, wR_tupT, onO_some, wR_ixL, wR_ixT, sl_tup, sl_lst, sl_scr, isi_non, sub_non_int, sub_non_bool, sub_non_str, sub_non_tuple, sub_non_list, sub_non_dict, isi_bl, sub_bl_int, sub_bl_bool, sub_bl_str, sub_bl_tuple, sub_bl_list, sub_bl_dict, isi_int, sub_int_int, sub_int_bool, sub_int_str, sub_int_tuple, sub_int_list, sub_int_dict, isi_str, sub_str_int, sub_str_bool, sub_str_str, sub_str_tuple, sub_str_list, sub_str_dict, isi_tup, sub_tup_int, sub_tup_bool, sub_tup_str, sub_tup_tuple, sub_tup_list, sub_tup_dict, isi_lst, sub_lst_int, sub_lst_bool, sub_lst_str, sub_lst_tuple, sub_lst_list, sub_lst_dict, isi_dct, sub_dct_int, sub_dct_bool, sub_dct_str, sub_dct_tuple, sub_dct_list, sub_dct_dict, List.any_cons, List.any_nil, Bool.or_false, Bool.or_true, Bool.false_or, Bool.true_or, wR_addT, wR_addL, wO_star1, wR_inK, wR_inKI, wR_ixK, wR_ixKI, lookK_hit, lookK_nil, Option.isSome_some, Option.isSome_none, seqF_tup, seqF_lst, seqF_scr, sz0, sz1, sz2, sz3, sz4, sz5, sz6, sz7, sz8, sz9, sz10, sz11, sz12, sz13, sz14, sz15, sz16, startE, isN, List.length_cons, List.length_nil, List.map_cons, List.map_nil, List.cons_append, List.nil_append, List.getElem?_cons_zero, List.getElem?_cons_succ, List.set_cons_zero, List.set_cons_succ, List.reduceReplicate, Nat.reduceAdd, Nat.reduceSub, Nat.zero_add, Option.map_some, decide_eq_true_eq, Bool.false_eq_true, Bool.not_true, Bool.not_false, if_false, if_true, true_and, and_true, gU]
  refine pull_ok k _ _ _ _ hb3 (by decide) (by decide) fun x4 c4 hc4 x40 x41 => ?_
  have hb4 := hb3.set hc4
  simp -implicitDefEqProofs only [wR_ok, wR_stuck, wR_exc, wR_bind, wR_var, wR_c, wR_1, wR_2, wR_nilA, wR_consA, wR_ite, wR_tup, wR_lst, wR_cellL, wR_asB, wR_test, wR_andT, wR_orT, wR_notT, onB_bl, wR_andV, wR_orV, wR_notV, wR_if, wR_call, wR_chain, wR_slice, wR_noPart, wR_part, wR_okO, wS_next, wS_fNext, wS_seq, wS_ret, wS_retN, wS_expr, wS_asg, wO_set, wO_some, wO_nils, wO_conss, wO_tup, wS_if, wS_for, wS_store, wS_par, on1_e, on2_e, onI_e, wR_range1, wR_range2, onSeq_some, wR_seqI, wR_zip, wR_enum, wR_lc, wR_yes, wR_sub, wR_add, wR_mul, wR_mod, wR_div, wR_pow, wR_neg, wR_lt, wR_le, wR_gt, wR_ge, wR_abs, wR_intC, wR_eqI, wR_eqS, wR_eqB, wR_isN, wR_lenL, wR_lenT, wR_listL, wR_listT, wR_tupL, wR_tupT, onO_some, wR_ixL, wR_ixT, sl_tup, sl_lst, sl_scr, isi_non, sub_non_int, sub_non_bool, sub_non_str, sub_non_tuple, sub_non_list, sub_non_dict, isi_bl, sub_bl_int, sub_bl_bool, sub_bl_str, sub_bl_tuple, sub_bl_list, sub_bl_dict, isi_int, sub_int_int, sub_int_bool, sub_int_str, sub_int_tuple, sub_int_list, sub_int_dict, isi_str, sub_str_int, sub_str_bool, sub_str_str, sub_str_tuple, sub_str_list, sub_str_dict, isi_tup, sub_tup_int, sub_tup_bool, sub_tup_str, sub_tup_tuple, sub_tup_list, sub_tup_dict, isi_lst, sub_lst_int, sub_lst_bool, sub_lst_str, sub_lst_tuple, sub_lst_list, sub_lst_dict, isi_dct, sub_dct_int, sub_dct_bool, sub_dct_str, sub_dct_tuple, sub_dct_list, sub_dct_dict, List.any_cons, List.any_nil, Bool.or_false, Bool.or_true, Bool.false_or, Bool.true_or, wR_addT, wR_addL, wO_star1, wR_inK, wR_inKI, wR_ixK, wR_ixKI, lookK_hit, lookK_nil, Option.isSome_some, Option.isSome_none, seqF_tup, seqF_lst, seqF_scr, sz0, sz1, sz2, sz3, sz4, sz5, sz6, sz7, sz8, sz9, sz10, sz11, sz12, sz13, sz14, sz15, sz16, startE, isN, List.length_cons, List.length_nil, List.map_cons, List.map_nil, List.cons_append, List.nil_append, List.getElem?_cons_zero, List.getElem?_cons_succ, List.set_cons_zero, List.set_cons_succ, List.reduceReplicate, Nat.reduceAdd, Nat.reduceSub, Nat.zero_add, Option.map_some, decide_eq_true_eq, Bool.false_eq_true, Bool.not_true, Bool.not_false, if_false, if_true, true_and, and_true, List.set_set] at hb4 ⊢
  split
  · exact hQ _ c4 hc4 (.gap _ _ ⟨x00, x01⟩ ⟨x10, x11⟩)
  · refine pull_ok k _ _ _ _ hb4 (by decide) (by decide) fun x5 c5 hc5 x50 x51 => ?_
    have hb5 := hb4.set hc5
    simp -implicitDefEqProofs only [wR_ok, wR_stuck, wR_exc, wR_bind, wR_var, wR_c, wR_1, wR_2, wR_nilA, wR_consA, wR_ite, wR_tup, wR_lst, wR_cellL, wR_asB, wR_test, wR_andT, wR_orT, wR_notT, onB_bl, wR_andV, wR_orV, wR_notV, wR_if, wR_call, wR_chain, wR_slice, wR_noPart, wR_part, wR_okO, wS_next, wS_fNext, wS_seq, wS_ret, wS_retN, wS_expr, wS_asg, wO_set, wO_some, wO_nils, wO_conss, wO_tup, wS_if, wS_for, wS_store, wS_par, on1_e, on2_e, onI_e, wR_range1, wR_range2, onSeq_some, wR_seqI, wR_zip, wR_enum, wR_lc, wR_yes, wR_sub, wR_add, wR_mul, wR_mod, wR_div, wR_pow, wR_neg, wR_lt, wR_le, wR_gt, wR_ge, wR_abs, wR_intC, wR_eqI, wR_eqS, wR_eqB, wR_isN, wR_lenL, wR_lenT, wR_listL, wR_listT, wR_tupL, wR_tupT, onO_some, wR_ixL, wR_ixT, sl_tup, sl_lst, sl_scr, isi_non, sub_non_int, sub_non_bool, sub_non_str, sub_non_tuple, sub_non_list, sub_non_dict, isi_bl, sub_bl_int, sub_bl_bool, sub_bl_str, sub_bl_tuple, sub_bl_list, sub_bl_dict, isi_int, sub_int_int, sub_int_bool, sub_int_str, sub_int_tuple, sub_int_list, sub_int_dict, isi_str, sub_str_int, sub_str_bool, sub_str_str, sub_str_tuple, sub_str_list, sub_str_dict, isi_tup, sub_tup_int, sub_tup_bool, sub_tup_str, sub_tup_tuple, sub_tup_list, sub_tup_dict, isi_lst, sub_lst_int, sub_lst_bool, sub_lst_str, sub_lst_tuple, sub_lst_list, sub_lst_dict, isi_dct, sub_dct_int, sub_dct_bool, sub_dct_str, sub_dct_tuple, sub_dct_list, sub_dct_dict, List.any_cons, List.any_nil, Bool.or_false, Bool.or_true, Bool.false_or, Bool.true_or, wR_addT, wR_addL, wO_star1, wR_inK, wR_inKI, wR_ixK, wR_ixKI, lookK_hit, lookK_nil, Option.isSome_some, Option.isSome_none, seqF_tup, seqF_lst, seqF_scr, sz0, sz1, sz2, sz3, sz4, sz5, sz6, sz7, sz8, sz9, sz10, sz11, sz12, sz13, sz14, sz15, sz16, startE, isN, List.length_cons, List.length_nil, List.map_cons, List.map_nil, List.cons_append, List.nil_append, List.getElem?_cons_zero, List.getElem?_cons_succ, List.set_cons_zero, List.set_cons_succ, List.reduceReplicate, Nat.reduceAdd, Nat.reduceSub, Nat.zero_add, Option.map_some, decide_eq_true_eq, Bool.false_eq_true, Bool.not_true, Bool.not_false, if_false, if_true, true_and, and_true, List.set_set] at hb5 ⊢
    split
    · refine pull_ok k _ _ _ _ hb5 (by decide) (by decide) fun x6 c6 hc6 x60 x61 => ?_
      rw [List.set_set]
      exact hQ _ c6 hc6 (.key _ _ _ _ _ ⟨x00, x01⟩ ⟨x10, x11⟩)
    · refine pull_ok k _ _ _ _ hb5 (by decide) (by decide) fun x6 c6 hc6 x60 x61 => ?_
      rw [List.set_set]
      exact hQ _ c6 hc6 (.key _ _ _ _ _ ⟨x00, x01⟩ ⟨Int.le_refl _, by omega⟩)
theorem meetL_len (p : Pt) (ks : List Str) (gr on : Int) (h : ks.length ≤ 4) : (meetL p ks gr on).length ≤ 4 := by
  unfold meetL
  rw [List.length_map]
  exact Nat.le_trans (List.length_filter_le _ _) h
theorem meetP_len {p : Pt} {c : D} (hc : CellD p c) : (meetP p c).length ≤ 4 ∧ ∀ x ∈ meetP p c, ∃ s, x = D.str s := by
  have mem : ∀ (ks : List Str) (gr on : Int), ∀ x ∈ meetL p ks gr on, ∃ s, x = D.str s := fun ks gr on x hx => by
    obtain ⟨s, _, rfl⟩ := List.mem_map.mp hx
    exact ⟨s, rfl⟩
  cases hc with
  | gap gr on _ _ =>
    show (if p.lets "put" 2 gr on = true then [D.str "put"] else []).length ≤ 4 ∧ ∀ x ∈ (if p.lets "put" 2 gr on = true then [D.str "put"] else []), ∃ s, x = D.str s
    by_cases h : p.lets "put" 2 gr on = true
    · rw [if_pos h]; exact ⟨by decide, fun x hx => ⟨"put", by simpa using hx⟩⟩
    · rw [if_neg h]; exact ⟨by decide, fun x hx => by cases hx⟩
  | key gr on st h n _ _ =>
    show (meetL p (if st = 1 then kindsL else psL) gr on).length ≤ 4 ∧ ∀ x ∈ meetL p (if st = 1 then kindsL else psL) gr on, ∃ s, x = D.str s
    refine ⟨meetL_len _ _ _ _ ?_, mem _ _ _⟩
    split <;> decide
theorem same_eq {p : Pt} {c : D} (hc : CellD p c) (g : G) : F__law_same [.lst [.lst (meetP p c)], .lst [.lst (meetP p c)]] g = .ok (.bl true) g := by
  obtain ⟨h1, h2⟩ := meetP_len hc
  have hsz : (1024 : Nat) ≤ sizeLine := by decide
  refine same_refl 12 _ _ ⟨by show (1 : Nat) ≤ sizeLine; omega, fun x hx => ?_⟩
  simp only [List.mem_cons, List.not_mem_nil, or_false] at hx
  subst hx
  refine ⟨by omega, fun x hx => ?_⟩
  obtain ⟨s, rfl⟩ := h2 x hx
  trivial
theorem law_ok (ns : List Int) : ∃ g, F_law [.scr ns] [] = .ok (.bl true) g := by
  suffices h : wR (F_law [.scr ns] []) (fun d _ => d = .bl true) (fun _ _ => False) by
    cases e : F_law [.scr ns] [] with
    | ok d g => rw [e, wR_ok] at h; cases h; exact ⟨g, rfl⟩
    | exc x g => rw [e, wR_exc] at h; exact h.elim
    | stuck => rw [e, wR_stuck] at h; exact h.elim
  have hsz : (1024 : Nat) ≤ sizeLine := by decide
  unfold F_law b_law
  rw [wR_body]
  refine ⟨rfl, ?_⟩
  simp -implicitDefEqProofs only [wR_ok, wR_stuck, wR_exc, wR_bind, wR_var, wR_c, wR_1, wR_2, wR_nilA, wR_consA, wR_ite, wR_tup, wR_lst, wR_cellL, wR_asB, wR_test, wR_andT, wR_orT, wR_notT, onB_bl, wR_andV, wR_orV, wR_notV, wR_if, wR_call, wR_chain, wR_slice, wR_noPart, wR_part, wR_okO, wS_next, wS_fNext, wS_seq, wS_ret, wS_retN, wS_expr, wS_asg, wO_set, wO_some, wO_nils, wO_conss, wO_tup, wS_if, wS_for, wS_store, wS_par, on1_e, on2_e, onI_e, wR_range1, wR_range2, onSeq_some, wR_seqI, wR_zip, wR_enum, wR_lc, wR_yes, wR_sub, wR_add, wR_mul, wR_mod, wR_div, wR_pow, wR_neg, wR_lt, wR_le, wR_gt, wR_ge, wR_abs, wR_intC, wR_eqI, wR_eqS, wR_eqB, wR_isN, wR_lenL, wR_lenT, wR_listL, wR_listT, wR_tupL, wR_tupT, onO_some, wR_ixL, wR_ixT, sl_tup, sl_lst, sl_scr, isi_non, sub_non_int, sub_non_bool, sub_non_str, sub_non_tuple, sub_non_list, sub_non_dict, isi_bl, sub_bl_int, sub_bl_bool, sub_bl_str, sub_bl_tuple, sub_bl_list, sub_bl_dict, isi_int, sub_int_int, sub_int_bool, sub_int_str, sub_int_tuple, sub_int_list, sub_int_dict, isi_str, sub_str_int, sub_str_bool, sub_str_str, sub_str_tuple, sub_str_list, sub_str_dict, isi_tup, sub_tup_int, sub_tup_bool, sub_tup_str, sub_tup_tuple, sub_tup_list, sub_tup_dict, isi_lst, sub_lst_int, sub_lst_bool, sub_lst_str, sub_lst_tuple, sub_lst_list, sub_lst_dict, isi_dct, sub_dct_int, sub_dct_bool, sub_dct_str, sub_dct_tuple, sub_dct_list, sub_dct_dict, List.any_cons, List.any_nil, Bool.or_false, Bool.or_true, Bool.false_or, Bool.true_or, wR_addT, wR_addL, wO_star1, wR_inK, wR_inKI, wR_ixK, wR_ixKI, lookK_hit, lookK_nil, Option.isSome_some, Option.isSome_none, seqF_tup, seqF_lst, seqF_scr, sz0, sz1, sz2, sz3, sz4, sz5, sz6, sz7, sz8, sz9, sz10, sz11, sz12, sz13, sz14, sz15, sz16, startE, isN, List.length_cons, List.length_nil, List.map_cons, List.map_nil, List.cons_append, List.nil_append, List.getElem?_cons_zero, List.getElem?_cons_succ, List.set_cons_zero, List.set_cons_succ, List.reduceReplicate, Nat.reduceAdd, Nat.reduceSub, Nat.zero_add, Option.map_some, decide_eq_true_eq, Bool.false_eq_true, Bool.not_true, Bool.not_false, if_false, if_true, true_and, and_true]
  refine (bag_ok ns []).mono2 ?_ (fun _ _ h => h)
  rintro d g ⟨rfl, c, hc, rfl⟩
  have hb : BagAt ([] ++ [c]) 0 := BagAt.push hc
  have lz : ([] : G).length = 0 := rfl
  rw [lz]
  refine parts_ok pull_ok (by decide) (by decide) hb fun p c1 hc1 hp => ?_
  have hb1 := hb.set hc1
  simp -implicitDefEqProofs only [wR_ok, wR_stuck, wR_exc, wR_bind, wR_var, wR_c, wR_1, wR_2, wR_nilA, wR_consA, wR_ite, wR_tup, wR_lst, wR_cellL, wR_asB, wR_test, wR_andT, wR_orT, wR_notT, onB_bl, wR_andV, wR_orV, wR_notV, wR_if, wR_call, wR_chain, wR_slice, wR_noPart, wR_part, wR_okO, wS_next, wS_fNext, wS_seq, wS_ret, wS_retN, wS_expr, wS_asg, wO_set, wO_some, wO_nils, wO_conss, wO_tup, wS_if, wS_for, wS_store, wS_par, on1_e, on2_e, onI_e, wR_range1, wR_range2, onSeq_some, wR_seqI, wR_zip, wR_enum, wR_lc, wR_yes, wR_sub, wR_add, wR_mul, wR_mod, wR_div, wR_pow, wR_neg, wR_lt, wR_le, wR_gt, wR_ge, wR_abs, wR_intC, wR_eqI, wR_eqS, wR_eqB, wR_isN, wR_lenL, wR_lenT, wR_listL, wR_listT, wR_tupL, wR_tupT, onO_some, wR_ixL, wR_ixT, sl_tup, sl_lst, sl_scr, isi_non, sub_non_int, sub_non_bool, sub_non_str, sub_non_tuple, sub_non_list, sub_non_dict, isi_bl, sub_bl_int, sub_bl_bool, sub_bl_str, sub_bl_tuple, sub_bl_list, sub_bl_dict, isi_int, sub_int_int, sub_int_bool, sub_int_str, sub_int_tuple, sub_int_list, sub_int_dict, isi_str, sub_str_int, sub_str_bool, sub_str_str, sub_str_tuple, sub_str_list, sub_str_dict, isi_tup, sub_tup_int, sub_tup_bool, sub_tup_str, sub_tup_tuple, sub_tup_list, sub_tup_dict, isi_lst, sub_lst_int, sub_lst_bool, sub_lst_str, sub_lst_tuple, sub_lst_list, sub_lst_dict, isi_dct, sub_dct_int, sub_dct_bool, sub_dct_str, sub_dct_tuple, sub_dct_list, sub_dct_dict, List.any_cons, List.any_nil, Bool.or_false, Bool.or_true, Bool.false_or, Bool.true_or, wR_addT, wR_addL, wO_star1, wR_inK, wR_inKI, wR_ixK, wR_ixKI, lookK_hit, lookK_nil, Option.isSome_some, Option.isSome_none, seqF_tup, seqF_lst, seqF_scr, sz0, sz1, sz2, sz3, sz4, sz5, sz6, sz7, sz8, sz9, sz10, sz11, sz12, sz13, sz14, sz15, sz16, startE, isN, List.length_cons, List.length_nil, List.map_cons, List.map_nil, List.cons_append, List.nil_append, List.getElem?_cons_zero, List.getElem?_cons_succ, List.set_cons_zero, List.set_cons_succ, List.reduceReplicate, Nat.reduceAdd, Nat.reduceSub, Nat.zero_add, Option.map_some, decide_eq_true_eq, Bool.false_eq_true, Bool.not_true, Bool.not_false, if_false, if_true, true_and, and_true, eq_wR (made_ok p hp _)]
  refine ⟨by decide, ?_⟩
  refine wS_range (fun _ env g => BagAt g 0 ∧ ∃ s4 s5, env = [.val (.scr ns), .val (.ref 0), .val p.partsD, .val p.bookD, s4, s5]) 0 _ ⟨hb1.app, _, _, rfl⟩ ?_ ?_
  · rintro i env g hi ⟨hb, s4, s5, rfl⟩
    unfold L1_law
    simp -implicitDefEqProofs only [wR_ok, wR_stuck, wR_exc, wR_bind, wR_var, wR_c, wR_1, wR_2, wR_nilA, wR_consA, wR_ite, wR_tup, wR_lst, wR_cellL, wR_asB, wR_test, wR_andT, wR_orT, wR_notT, onB_bl, wR_andV, wR_orV, wR_notV, wR_if, wR_call, wR_chain, wR_slice, wR_noPart, wR_part, wR_okO, wS_next, wS_fNext, wS_seq, wS_ret, wS_retN, wS_expr, wS_asg, wO_set, wO_some, wO_nils, wO_conss, wO_tup, wS_if, wS_for, wS_store, wS_par, on1_e, on2_e, onI_e, wR_range1, wR_range2, onSeq_some, wR_seqI, wR_zip, wR_enum, wR_lc, wR_yes, wR_sub, wR_add, wR_mul, wR_mod, wR_div, wR_pow, wR_neg, wR_lt, wR_le, wR_gt, wR_ge, wR_abs, wR_intC, wR_eqI, wR_eqS, wR_eqB, wR_isN, wR_lenL, wR_lenT, wR_listL, wR_listT, wR_tupL, wR_tupT, onO_some, wR_ixL, wR_ixT, sl_tup, sl_lst, sl_scr, isi_non, sub_non_int, sub_non_bool, sub_non_str, sub_non_tuple, sub_non_list, sub_non_dict, isi_bl, sub_bl_int, sub_bl_bool, sub_bl_str, sub_bl_tuple, sub_bl_list, sub_bl_dict, isi_int, sub_int_int, sub_int_bool, sub_int_str, sub_int_tuple, sub_int_list, sub_int_dict, isi_str, sub_str_int, sub_str_bool, sub_str_str, sub_str_tuple, sub_str_list, sub_str_dict, isi_tup, sub_tup_int, sub_tup_bool, sub_tup_str, sub_tup_tuple, sub_tup_list, sub_tup_dict, isi_lst, sub_lst_int, sub_lst_bool, sub_lst_str, sub_lst_tuple, sub_lst_list, sub_lst_dict, isi_dct, sub_dct_int, sub_dct_bool, sub_dct_str, sub_dct_tuple, sub_dct_list, sub_dct_dict, List.any_cons, List.any_nil, Bool.or_false, Bool.or_true, Bool.false_or, Bool.true_or, wR_addT, wR_addL, wO_star1, wR_inK, wR_inKI, wR_ixK, wR_ixKI, lookK_hit, lookK_nil, Option.isSome_some, Option.isSome_none, seqF_tup, seqF_lst, seqF_scr, sz0, sz1, sz2, sz3, sz4, sz5, sz6, sz7, sz8, sz9, sz10, sz11, sz12, sz13, sz14, sz15, sz16, startE, isN, List.length_cons, List.length_nil, List.map_cons, List.map_nil, List.cons_append, List.nil_append, List.getElem?_cons_zero, List.getElem?_cons_succ, List.set_cons_zero, List.set_cons_succ, List.reduceReplicate, Nat.reduceAdd, Nat.reduceSub, Nat.zero_add, Option.map_some, decide_eq_true_eq, Bool.false_eq_true, Bool.not_true, Bool.not_false, if_false, if_true, true_and, and_true]
    refine cell_ok hp hb fun cd c2 hc2 hcd => ?_
    have hb2 := hb.set hc2
    have hl : 0 < (g.set 0 c2).length := hb2.lt
    obtain ⟨m1, m2⟩ := meetP_len hcd
    have fz : ∀ (g : G) (xs : List D) (Q : D → G → Prop) (X : Exn → G → Prop), wR (frzD (.ref g.length) (g ++ [.lst xs])) Q X = Q (.lst xs) (g ++ [.dead]) := fun g xs Q X => by
      have e : frzD (.ref g.length) (g ++ [.lst xs]) = .ok (.lst xs) (g ++ [.dead]) := by
        unfold frzD
        simp only [get_last, set_last]
      rw [e, wR_ok]
    have ld : ∀ (g : G) (xs : List D), lstD (g ++ [.lst xs]) (.ref g.length) = some xs := fun g xs => by
      unfold lstD
      simp only [get_last]
    have ap : ∀ (g : G) (xs : List D) (x : D) (Q : D → G → Prop) (X : Exn → G → Prop), xs.length < sizeLine → wR (dAppC (.ref g.length) x (g ++ [.lst xs])) Q X = Q .non (g ++ [.lst (xs ++ [x])]) := fun g xs x Q X h => by
      have e : dAppC (.ref g.length) x (g ++ [.lst xs]) = .ok .non (g ++ [.lst (xs ++ [x])]) := by
        unfold dAppC
        simp only [get_last, set_last, h, if_true]
      rw [e, wR_ok]
    simp -implicitDefEqProofs only [wR_ok, wR_stuck, wR_exc, wR_bind, wR_var, wR_c, wR_1, wR_2, wR_nilA, wR_consA, wR_ite, wR_tup, wR_lst, wR_cellL, wR_asB, wR_test, wR_andT, wR_orT, wR_notT, onB_bl, wR_andV, wR_orV, wR_notV, wR_if, wR_call, wR_chain, wR_slice, wR_noPart, wR_part, wR_okO, wS_next, wS_fNext, wS_seq, wS_ret, wS_retN, wS_expr, wS_asg, wO_set, wO_some, wO_nils, wO_conss, wO_tup, wS_if, wS_for, wS_store, wS_par, on1_e, on2_e, onI_e, wR_range1, wR_range2, onSeq_some, wR_seqI, wR_zip, wR_enum, wR_lc, wR_yes, wR_sub, wR_add, wR_mul, wR_mod, wR_div, wR_pow, wR_neg, wR_lt, wR_le, wR_gt, wR_ge, wR_abs, wR_intC, wR_eqI, wR_eqS, wR_eqB, wR_isN, wR_lenL, wR_lenT, wR_listL, wR_listT, wR_tupL, wR_tupT, onO_some, wR_ixL, wR_ixT, sl_tup, sl_lst, sl_scr, isi_non, sub_non_int, sub_non_bool, sub_non_str, sub_non_tuple, sub_non_list, sub_non_dict, isi_bl, sub_bl_int, sub_bl_bool, sub_bl_str, sub_bl_tuple, sub_bl_list, sub_bl_dict, isi_int, sub_int_int, sub_int_bool, sub_int_str, sub_int_tuple, sub_int_list, sub_int_dict, isi_str, sub_str_int, sub_str_bool, sub_str_str, sub_str_tuple, sub_str_list, sub_str_dict, isi_tup, sub_tup_int, sub_tup_bool, sub_tup_str, sub_tup_tuple, sub_tup_list, sub_tup_dict, isi_lst, sub_lst_int, sub_lst_bool, sub_lst_str, sub_lst_tuple, sub_lst_list, sub_lst_dict, isi_dct, sub_dct_int, sub_dct_bool, sub_dct_str, sub_dct_tuple, sub_dct_list, sub_dct_dict, List.any_cons, List.any_nil, Bool.or_false, Bool.or_true, Bool.false_or, Bool.true_or, wR_addT, wR_addL, wO_star1, wR_inK, wR_inKI, wR_ixK, wR_ixKI, lookK_hit, lookK_nil, Option.isSome_some, Option.isSome_none, seqF_tup, seqF_lst, seqF_scr, sz0, sz1, sz2, sz3, sz4, sz5, sz6, sz7, sz8, sz9, sz10, sz11, sz12, sz13, sz14, sz15, sz16, startE, isN, List.length_cons, List.length_nil, List.map_cons, List.map_nil, List.cons_append, List.nil_append, List.getElem?_cons_zero, List.getElem?_cons_succ, List.set_cons_zero, List.set_cons_succ, List.reduceReplicate, Nat.reduceAdd, Nat.reduceSub, Nat.zero_add, Option.map_some, decide_eq_true_eq, Bool.false_eq_true, Bool.not_true, Bool.not_false, if_false, if_true, true_and, and_true, eq_wR (meet_eq hp hcd _), fz, eq_wR (lmeet_eq hp hcd _), eq_wR (same_eq hcd _), wR_lstM, ld, ap _ _ _ _ _ (show (meetP p cd).length < sizeLine by omega)]
    exact ⟨(hb2.app).app, _, _, rfl⟩
  · rintro env g ⟨hb, s4, s5, rfl⟩
    simp -implicitDefEqProofs only [wR_ok, wR_stuck, wR_exc, wR_bind, wR_var, wR_c, wR_1, wR_2, wR_nilA, wR_consA, wR_ite, wR_tup, wR_lst, wR_cellL, wR_asB, wR_test, wR_andT, wR_orT, wR_notT, onB_bl, wR_andV, wR_orV, wR_notV, wR_if, wR_call, wR_chain, wR_slice, wR_noPart, wR_part, wR_okO, wS_next, wS_fNext, wS_seq, wS_ret, wS_retN, wS_expr, wS_asg, wO_set, wO_some, wO_nils, wO_conss, wO_tup, wS_if, wS_for, wS_store, wS_par, on1_e, on2_e, onI_e, wR_range1, wR_range2, onSeq_some, wR_seqI, wR_zip, wR_enum, wR_lc, wR_yes, wR_sub, wR_add, wR_mul, wR_mod, wR_div, wR_pow, wR_neg, wR_lt, wR_le, wR_gt, wR_ge, wR_abs, wR_intC, wR_eqI, wR_eqS, wR_eqB, wR_isN, wR_lenL, wR_lenT, wR_listL, wR_listT, wR_tupL, wR_tupT, onO_some, wR_ixL, wR_ixT, sl_tup, sl_lst, sl_scr, isi_non, sub_non_int, sub_non_bool, sub_non_str, sub_non_tuple, sub_non_list, sub_non_dict, isi_bl, sub_bl_int, sub_bl_bool, sub_bl_str, sub_bl_tuple, sub_bl_list, sub_bl_dict, isi_int, sub_int_int, sub_int_bool, sub_int_str, sub_int_tuple, sub_int_list, sub_int_dict, isi_str, sub_str_int, sub_str_bool, sub_str_str, sub_str_tuple, sub_str_list, sub_str_dict, isi_tup, sub_tup_int, sub_tup_bool, sub_tup_str, sub_tup_tuple, sub_tup_list, sub_tup_dict, isi_lst, sub_lst_int, sub_lst_bool, sub_lst_str, sub_lst_tuple, sub_lst_list, sub_lst_dict, isi_dct, sub_dct_int, sub_dct_bool, sub_dct_str, sub_dct_tuple, sub_dct_list, sub_dct_dict, List.any_cons, List.any_nil, Bool.or_false, Bool.or_true, Bool.false_or, Bool.true_or, wR_addT, wR_addL, wO_star1, wR_inK, wR_inKI, wR_ixK, wR_ixKI, lookK_hit, lookK_nil, Option.isSome_some, Option.isSome_none, seqF_tup, seqF_lst, seqF_scr, sz0, sz1, sz2, sz3, sz4, sz5, sz6, sz7, sz8, sz9, sz10, sz11, sz12, sz13, sz14, sz15, sz16, startE, isN, List.length_cons, List.length_nil, List.map_cons, List.map_nil, List.cons_append, List.nil_append, List.getElem?_cons_zero, List.getElem?_cons_succ, List.set_cons_zero, List.set_cons_succ, List.reduceReplicate, Nat.reduceAdd, Nat.reduceSub, Nat.zero_add, Option.map_some, decide_eq_true_eq, Bool.false_eq_true, Bool.not_true, Bool.not_false, if_false, if_true, true_and, and_true]
end FL

namespace FLH
open PySem PySem.Spec PyProof.Rows L2 He
def dl (a : At) (st : Stmt) (x q : Str) : DefX := ⟨a, x, q, defArgs st, defBody st, defScope st, [], []⟩
def fn : List DefX := [dl (.glo "_law_bag") (FL.top 38) "_law_bag" "_law_bag", dl (.glo "_law_pull") (FL.top 39) "_law_pull" "_law_pull", dl (.glo "_law_cell") (FL.top 51) "_law_cell" "_law_cell", dl (.meth "LockBook" "numbers") (FL.mth 23 13) "numbers" "LockBook.numbers", dl (.glo "is_number") (FL.top 13) "is_number" "is_number", dl (.glo "is_below") (FL.top 14) "is_below" "is_below", dl (.glo "is_pair") (FL.top 16) "is_pair" "is_pair", dl (.glo "limit_at") (FL.top 21) "limit_at" "limit_at", dl (.glo "are_wants") (FL.top 22) "are_wants" "are_wants", dl (.glo "fall_of_splits") (FL.top 18) "fall_of_splits" "fall_of_splits", dl (.glo "need_splits") (FL.top 20) "need_splits" "need_splits", dl (.glo "fall_of_table") (FL.top 17) "fall_of_table" "fall_of_table", dl (.glo "is_table") (FL.top 15) "is_table" "is_table", dl (.glo "need_table") (FL.top 19) "need_table" "need_table", dl (.meth "LockBook" "__init__") (FL.mth 23 1) "__init__" "LockBook.__init__", dl (.glo "_law_made") (FL.top 45) "_law_made" "_law_made", dl (.glo "_law_kinds") (FL.top 47) "_law_kinds" "_law_kinds", dl (.glo "_law_wish") (FL.top 48) "_law_wish" "_law_wish", dl (.glo "_law_free") (FL.top 49) "_law_free" "_law_free", dl (.glo "_law_meeting") (FL.top 50) "_law_meeting" "_law_meeting", dl (.glo "_law_splits") (FL.top 42) "_law_splits" "_law_splits", dl (.glo "_law_table") (FL.top 41) "_law_table" "_law_table", dl (.glo "_law_want") (FL.top 43) "_law_want" "_law_want", dl (.glo "_law_parts") (FL.top 44) "_law_parts" "_law_parts", dl (.glo "_law_same") (FL.top 46) "_law_same" "_law_same", dl (.meth "LockBook" "bars_gap") (FL.mth 23 11) "bars_gap" "LockBook.bars_gap", dl (.meth "LockBook" "bars_key") (FL.mth 23 10) "bars_key" "LockBook.bars_key", dl (.meth "LockBook" "wants") (FL.mth 23 6) "wants" "LockBook.wants", dl (.meth "LockBook" "wanted") (FL.mth 23 7) "wanted" "LockBook.wanted", dl (.glo "lets_meet") (FL.top 35) "lets_meet" "lets_meet", dl (.glo "lets_pass") (FL.top 34) "lets_pass" "lets_pass", dl (.glo "meeting_kinds") (FL.top 36) "meeting_kinds" "meeting_kinds", dl (.glo "law") (FL.top 52) "law" "law"]
def fa : List Ft := [fFree "abs", fFree "all", fFree "bool", fFree "enumerate", fFree "int", fFree "isinstance", fFree "len", fFree "list", fFree "max", fFree "range", fFree "str", fFree "tuple", fFree "zip", fTup "KINDS" [.str "get", .str "walk", .str "put", .str "strike"], fInt "MOST_GRADES" 5, fCls "LockBook", fGlo "LockBook", fNoat "LockBook" "own_gaps", fNoat "LockBook" "own_keys", fNoat "LockBook" "own_numbers", fNoat "LockBook" "own_splits", fNoat "LockBook" "own_wants", fGlo "_law_bag", fGlo "_law_pull", fGlo "_law_cell", fMethB "LockBook" "numbers", fGlo "is_number", fGlo "is_below", fGlo "is_pair", fGlo "limit_at", fGlo "are_wants", fGlo "fall_of_splits", fGlo "need_splits", fGlo "fall_of_table", fGlo "is_table", fGlo "need_table", fMkr "LockBook", fGlo "_law_made", fGlo "_law_kinds", fGlo "_law_wish", fGlo "_law_free", fGlo "_law_meeting", fGlo "_law_splits", fGlo "_law_table", fGlo "_law_want", fGlo "_law_parts", fGlo "_law_same", fMethB "LockBook" "bars_gap", fMethB "LockBook" "bars_key", fMethB "LockBook" "wants", fMethB "LockBook" "wanted", fGlo "lets_meet", fGlo "lets_pass", fGlo "meeting_kinds", fGlo "law"]
def loose : List Str := (["_wall", "GapError", "Missing", "InvalidBook", "InvalidText", "Unlike", "UnknownName", "KINDS", "PARTS", "MOST_GRADES", "FIGURES", "is_number"] : List Str) ++ (["is_below", "is_table", "is_pair", "fall_of_table", "fall_of_splits", "need_table", "need_splits", "limit_at", "are_wants", "LockBook", "table_line", "want_text"] : List Str) ++ (["read_want", "read_row", "read_line", "need_part", "chosen", "mixed_rows", "mixed", "lets_pass", "lets_meet", "meeting_kinds", "_law_bag", "_law_pull"] : List Str) ++ (["_law_of", "_law_table", "_law_splits", "_law_want", "_law_parts", "_law_made", "_law_same", "_law_kinds", "_law_wish", "_law_free", "_law_meeting", "_law_cell"] : List Str)
abbrev R : PySem.W.OpenRow := PySem.W.OpenLaw.row PySem.Challenge.rw_ghostgap_k36_asks_that_meet
abbrev hk : PySem.W.Hook := hookX 6 fa fn
def ob (s : PySem.W.SharedT) : He.AlD := obsXG 6 fa fn (HandSHeadRun.getT s)
theorem ob_eq (s : PySem.W.SharedT) : ob s = hk.obs s.abs := obsXG_eq (HandSHeadRun.getT_eq s)
theorem run (w : World) : HandSHeadRun.RunEq R (PySem.W.view R.prog [52]) hk ob 12000 loose w := by
  intro os
  kernel_rfl
theorem facts {P : Program} {w : World} {K : PySem.W.Frag} {h : Heap} {mg : Str → Option Value} {f : Addr} (X : K.In h) (G : h.Ns mainGlobals mg) (hfa : mg ("law" : Str) = some (.ref f)) (c : SaysX fa fn K) :
    ∃ fd : FuncData, (∀ (s : Shared) (v : Value), BindsTo s fd ⟨[v], []⟩ [("_law_script", v)]) ∧ ∀ base : Heap, K.In base → base.Ns mainGlobals mg → FnOk P w K mg base (L2.CX P w) 13 f fd ["_law_script"] (FL.spF K (He.ga K) 1 FL.F_law) := by
  have T : FL.Tx K mg (He.ga K) := ⟨free_ok X G (c.fact 0),
    free_ok X G (c.fact 1),
    free_ok X G (c.fact 2),
    free_ok X G (c.fact 3),
    free_ok X G (c.fact 4),
    free_ok X G (c.fact 5),
    free_ok X G (c.fact 6),
    free_ok X G (c.fact 7),
    free_ok X G (c.fact 8),
    free_ok X G (c.fact 9),
    free_ok X G (c.fact 10),
    free_ok X G (c.fact 11),
    free_ok X G (c.fact 12),
    fTup_ok (vs := [.str "get", .str "walk", .str "put", .str "strike"]) X G rfl (c.fact 13),
    int_ok X G (c.fact 14),
    cls_ok (c.fact 15),
    glo_ok X G (c.fact 16),
    (fun z hz => by
    simp only [List.mem_cons, List.not_mem_nil, or_false] at hz
    rcases hz with rfl
    · exact ⟨cls_ok (c.fact 15), noat_ok (c.fact 17)⟩),
    (fun z hz => by
    simp only [List.mem_cons, List.not_mem_nil, or_false] at hz
    rcases hz with rfl
    · exact ⟨cls_ok (c.fact 15), noat_ok (c.fact 18)⟩),
    (fun z hz => by
    simp only [List.mem_cons, List.not_mem_nil, or_false] at hz
    rcases hz with rfl
    · exact ⟨cls_ok (c.fact 15), noat_ok (c.fact 19)⟩),
    (fun z hz => by
    simp only [List.mem_cons, List.not_mem_nil, or_false] at hz
    rcases hz with rfl
    · exact ⟨cls_ok (c.fact 15), noat_ok (c.fact 20)⟩),
    (fun z hz => by
    simp only [List.mem_cons, List.not_mem_nil, or_false] at hz
    rcases hz with rfl
    · exact ⟨cls_ok (c.fact 15), noat_ok (c.fact 21)⟩)⟩
  obtain ⟨fd__law_bag, F__law_bag⟩ := c.def_ 0 (d := dl (.glo "_law_bag") (FL.top 38) "_law_bag" "_law_bag")
  have m__law_bag := glo_ok X G (c.fact 22)
  obtain ⟨fd__law_pull, F__law_pull⟩ := c.def_ 1 (d := dl (.glo "_law_pull") (FL.top 39) "_law_pull" "_law_pull")
  have m__law_pull := glo_ok X G (c.fact 23)
  obtain ⟨fd__law_cell, F__law_cell⟩ := c.def_ 2 (d := dl (.glo "_law_cell") (FL.top 51) "_law_cell" "_law_cell")
  have m__law_cell := glo_ok X G (c.fact 24)
  obtain ⟨fd_LockBook_numbers, F_LockBook_numbers⟩ := c.def_ 3 (d := dl (.meth "LockBook" "numbers") (FL.mth 23 13) "numbers" "LockBook.numbers")
  have m_LockBook_numbers := meth_ok (c.fact 25)
  obtain ⟨fd_is_number, F_is_number⟩ := c.def_ 4 (d := dl (.glo "is_number") (FL.top 13) "is_number" "is_number")
  have m_is_number := glo_ok X G (c.fact 26)
  obtain ⟨fd_is_below, F_is_below⟩ := c.def_ 5 (d := dl (.glo "is_below") (FL.top 14) "is_below" "is_below")
  have m_is_below := glo_ok X G (c.fact 27)
  obtain ⟨fd_is_pair, F_is_pair⟩ := c.def_ 6 (d := dl (.glo "is_pair") (FL.top 16) "is_pair" "is_pair")
  have m_is_pair := glo_ok X G (c.fact 28)
  obtain ⟨fd_limit_at, F_limit_at⟩ := c.def_ 7 (d := dl (.glo "limit_at") (FL.top 21) "limit_at" "limit_at")
  have m_limit_at := glo_ok X G (c.fact 29)
  obtain ⟨fd_are_wants, F_are_wants⟩ := c.def_ 8 (d := dl (.glo "are_wants") (FL.top 22) "are_wants" "are_wants")
  have m_are_wants := glo_ok X G (c.fact 30)
  obtain ⟨fd_fall_of_splits, F_fall_of_splits⟩ := c.def_ 9 (d := dl (.glo "fall_of_splits") (FL.top 18) "fall_of_splits" "fall_of_splits")
  have m_fall_of_splits := glo_ok X G (c.fact 31)
  obtain ⟨fd_need_splits, F_need_splits⟩ := c.def_ 10 (d := dl (.glo "need_splits") (FL.top 20) "need_splits" "need_splits")
  have m_need_splits := glo_ok X G (c.fact 32)
  obtain ⟨fd_fall_of_table, F_fall_of_table⟩ := c.def_ 11 (d := dl (.glo "fall_of_table") (FL.top 17) "fall_of_table" "fall_of_table")
  have m_fall_of_table := glo_ok X G (c.fact 33)
  obtain ⟨fd_is_table, F_is_table⟩ := c.def_ 12 (d := dl (.glo "is_table") (FL.top 15) "is_table" "is_table")
  have m_is_table := glo_ok X G (c.fact 34)
  obtain ⟨fd_need_table, F_need_table⟩ := c.def_ 13 (d := dl (.glo "need_table") (FL.top 19) "need_table" "need_table")
  have m_need_table := glo_ok X G (c.fact 35)
  obtain ⟨fd_LockBook___init__, F_LockBook___init__⟩ := c.def_ 14 (d := dl (.meth "LockBook" "__init__") (FL.mth 23 1) "__init__" "LockBook.__init__")
  have m_LockBook___init__ := mkr_ok (c.fact 36)
  obtain ⟨fd__law_made, F__law_made⟩ := c.def_ 15 (d := dl (.glo "_law_made") (FL.top 45) "_law_made" "_law_made")
  have m__law_made := glo_ok X G (c.fact 37)
  obtain ⟨fd__law_kinds, F__law_kinds⟩ := c.def_ 16 (d := dl (.glo "_law_kinds") (FL.top 47) "_law_kinds" "_law_kinds")
  have m__law_kinds := glo_ok X G (c.fact 38)
  obtain ⟨fd__law_wish, F__law_wish⟩ := c.def_ 17 (d := dl (.glo "_law_wish") (FL.top 48) "_law_wish" "_law_wish")
  have m__law_wish := glo_ok X G (c.fact 39)
  obtain ⟨fd__law_free, F__law_free⟩ := c.def_ 18 (d := dl (.glo "_law_free") (FL.top 49) "_law_free" "_law_free")
  have m__law_free := glo_ok X G (c.fact 40)
  obtain ⟨fd__law_meeting, F__law_meeting⟩ := c.def_ 19 (d := dl (.glo "_law_meeting") (FL.top 50) "_law_meeting" "_law_meeting")
  have m__law_meeting := glo_ok X G (c.fact 41)
  obtain ⟨fd__law_splits, F__law_splits⟩ := c.def_ 20 (d := dl (.glo "_law_splits") (FL.top 42) "_law_splits" "_law_splits")
  have m__law_splits := glo_ok X G (c.fact 42)
  obtain ⟨fd__law_table, F__law_table⟩ := c.def_ 21 (d := dl (.glo "_law_table") (FL.top 41) "_law_table" "_law_table")
  have m__law_table := glo_ok X G (c.fact 43)
  obtain ⟨fd__law_want, F__law_want⟩ := c.def_ 22 (d := dl (.glo "_law_want") (FL.top 43) "_law_want" "_law_want")
  have m__law_want := glo_ok X G (c.fact 44)
  obtain ⟨fd__law_parts, F__law_parts⟩ := c.def_ 23 (d := dl (.glo "_law_parts") (FL.top 44) "_law_parts" "_law_parts")
  have m__law_parts := glo_ok X G (c.fact 45)
  obtain ⟨fd__law_same, F__law_same⟩ := c.def_ 24 (d := dl (.glo "_law_same") (FL.top 46) "_law_same" "_law_same")
  have m__law_same := glo_ok X G (c.fact 46)
  obtain ⟨fd_LockBook_bars_gap, F_LockBook_bars_gap⟩ := c.def_ 25 (d := dl (.meth "LockBook" "bars_gap") (FL.mth 23 11) "bars_gap" "LockBook.bars_gap")
  have m_LockBook_bars_gap := meth_ok (c.fact 47)
  obtain ⟨fd_LockBook_bars_key, F_LockBook_bars_key⟩ := c.def_ 26 (d := dl (.meth "LockBook" "bars_key") (FL.mth 23 10) "bars_key" "LockBook.bars_key")
  have m_LockBook_bars_key := meth_ok (c.fact 48)
  obtain ⟨fd_LockBook_wants, F_LockBook_wants⟩ := c.def_ 27 (d := dl (.meth "LockBook" "wants") (FL.mth 23 6) "wants" "LockBook.wants")
  have m_LockBook_wants := meth_ok (c.fact 49)
  obtain ⟨fd_LockBook_wanted, F_LockBook_wanted⟩ := c.def_ 28 (d := dl (.meth "LockBook" "wanted") (FL.mth 23 7) "wanted" "LockBook.wanted")
  have m_LockBook_wanted := meth_ok (c.fact 50)
  obtain ⟨fd_lets_meet, F_lets_meet⟩ := c.def_ 29 (d := dl (.glo "lets_meet") (FL.top 35) "lets_meet" "lets_meet")
  have m_lets_meet := glo_ok X G (c.fact 51)
  obtain ⟨fd_lets_pass, F_lets_pass⟩ := c.def_ 30 (d := dl (.glo "lets_pass") (FL.top 34) "lets_pass" "lets_pass")
  have m_lets_pass := glo_ok X G (c.fact 52)
  obtain ⟨fd_meeting_kinds, F_meeting_kinds⟩ := c.def_ 31 (d := dl (.glo "meeting_kinds") (FL.top 36) "meeting_kinds" "meeting_kinds")
  have m_meeting_kinds := glo_ok X G (c.fact 53)
  obtain ⟨fd_law, F_law⟩ := c.def_ 32 (d := dl (.glo "law") (FL.top 52) "law" "law")
  have m_law := glo_ok X G (c.fact 54)
  have e := hfa.symm.trans m_law
  cases e
  have b := FunD.bindsA (ps := ["_law_script"]) F_law fun _ _ _ _ _ _ us hl => match us, hl with | [_], _ => rfl
  refine ⟨fd_law, fun s v => b s [v] rfl, fun base _ _ => ?_⟩
  have g__law_bag : FL.GF P w K mg base (He.ga K) "_law_bag" 1 1 FL.F__law_bag := FL.gf__law_bag T F__law_bag m__law_bag
  have g__law_pull : FL.GF P w K mg base (He.ga K) "_law_pull" 1 2 FL.F__law_pull := FL.gf__law_pull T F__law_pull m__law_pull
  have g__law_cell : FL.GF P w K mg base (He.ga K) "_law_cell" 2 2 FL.F__law_cell := FL.gf__law_cell T g__law_pull F__law_cell m__law_cell
  have g_LockBook_numbers : FL.GM P w K mg base (He.ga K) "LockBook" "numbers" 1 1 FL.F_LockBook_numbers [] [] := FL.gf_LockBook_numbers T F_LockBook_numbers m_LockBook_numbers
  have g_is_number : FL.GF P w K mg base (He.ga K) "is_number" 1 1 FL.F_is_number := FL.gf_is_number T F_is_number m_is_number
  have g_is_below : FL.GF P w K mg base (He.ga K) "is_below" 2 2 FL.F_is_below := FL.gf_is_below T g_is_number F_is_below m_is_below
  have g_is_pair : FL.GF P w K mg base (He.ga K) "is_pair" 3 3 FL.F_is_pair := FL.gf_is_pair T g_is_below F_is_pair m_is_pair
  have g_limit_at : FL.GF P w K mg base (He.ga K) "limit_at" 1 2 FL.F_limit_at := FL.gf_limit_at T F_limit_at m_limit_at
  have g_are_wants : FL.GF P w K mg base (He.ga K) "are_wants" 4 2 FL.F_are_wants := FL.gf_are_wants T g_is_pair g_limit_at F_are_wants m_are_wants
  have g_fall_of_splits : FL.GF P w K mg base (He.ga K) "fall_of_splits" 1 1 FL.F_fall_of_splits := FL.gf_fall_of_splits T F_fall_of_splits m_fall_of_splits
  have g_need_splits : FL.GF P w K mg base (He.ga K) "need_splits" 4 2 FL.F_need_splits := FL.gf_need_splits T g_fall_of_splits g_is_pair F_need_splits m_need_splits
  have g_fall_of_table : FL.GF P w K mg base (He.ga K) "fall_of_table" 1 1 FL.F_fall_of_table := FL.gf_fall_of_table T F_fall_of_table m_fall_of_table
  have g_is_table : FL.GF P w K mg base (He.ga K) "is_table" 3 1 FL.F_is_table := FL.gf_is_table T g_is_below F_is_table m_is_table
  have g_need_table : FL.GF P w K mg base (He.ga K) "need_table" 4 2 FL.F_need_table := FL.gf_need_table T g_fall_of_table g_is_table F_need_table m_need_table
  have g_LockBook___init__ : FL.GKk P w K mg base (He.ga K) "LockBook" 5 3 ["get", "walk", "put", "strike"] FL.F_LockBook___init__ := FL.gf_LockBook___init__ T g_LockBook_numbers g_are_wants g_need_splits g_need_table F_LockBook___init__ m_LockBook___init__
  have g__law_made : FL.GF P w K mg base (He.ga K) "_law_made" 7 1 FL.F__law_made := FL.gf__law_made T g_LockBook___init__ F__law_made m__law_made
  have g__law_kinds : FL.GF P w K mg base (He.ga K) "_law_kinds" 1 0 FL.F__law_kinds := FL.gf__law_kinds T F__law_kinds m__law_kinds
  have g__law_wish : FL.GF P w K mg base (He.ga K) "_law_wish" 2 3 FL.F__law_wish := FL.gf__law_wish T g__law_kinds F__law_wish m__law_wish
  have g__law_free : FL.GF P w K mg base (He.ga K) "_law_free" 3 5 FL.F__law_free := FL.gf__law_free T g__law_wish F__law_free m__law_free
  have g__law_meeting : FL.GF P w K mg base (He.ga K) "_law_meeting" 4 2 FL.F__law_meeting := FL.gf__law_meeting T g__law_free g__law_kinds F__law_meeting m__law_meeting
  have g__law_splits : FL.GF P w K mg base (He.ga K) "_law_splits" 2 2 FL.F__law_splits := FL.gf__law_splits T g__law_pull F__law_splits m__law_splits
  have g__law_table : FL.GF P w K mg base (He.ga K) "_law_table" 2 2 FL.F__law_table := FL.gf__law_table T g__law_pull F__law_table m__law_table
  have g__law_want : FL.GF P w K mg base (He.ga K) "_law_want" 2 2 FL.F__law_want := FL.gf__law_want T g__law_pull F__law_want m__law_want
  have g__law_parts : FL.GF P w K mg base (He.ga K) "_law_parts" 3 2 FL.F__law_parts := FL.gf__law_parts T g__law_pull g__law_splits g__law_table g__law_want F__law_parts m__law_parts
  have g__law_same : FL.GF P w K mg base (He.ga K) "_law_same" 12 2 FL.F__law_same := FL.gf__law_same T F__law_same m__law_same 12
  have g_LockBook_bars_gap : FL.GM P w K mg base (He.ga K) "LockBook" "bars_gap" 1 3 FL.F_LockBook_bars_gap [] [] := FL.gf_LockBook_bars_gap T F_LockBook_bars_gap m_LockBook_bars_gap
  have g_LockBook_bars_key : FL.GM P w K mg base (He.ga K) "LockBook" "bars_key" 1 3 FL.F_LockBook_bars_key [] [] := FL.gf_LockBook_bars_key T F_LockBook_bars_key m_LockBook_bars_key
  have g_LockBook_wants : FL.GM P w K mg base (He.ga K) "LockBook" "wants" 1 2 FL.F_LockBook_wants [] [] := FL.gf_LockBook_wants T F_LockBook_wants m_LockBook_wants
  have g_LockBook_wanted : FL.GM P w K mg base (He.ga K) "LockBook" "wanted" 2 3 FL.F_LockBook_wanted [] [] := FL.gf_LockBook_wanted T g_LockBook_wants F_LockBook_wanted m_LockBook_wanted
  have g_lets_meet : FL.GF P w K mg base (He.ga K) "lets_meet" 3 3 FL.F_lets_meet := FL.gf_lets_meet T g_LockBook_bars_gap g_LockBook_bars_key g_LockBook_wanted F_lets_meet m_lets_meet
  have g_lets_pass : FL.GF P w K mg base (He.ga K) "lets_pass" 3 3 FL.F_lets_pass := FL.gf_lets_pass T g_LockBook_bars_gap g_LockBook_bars_key g_LockBook_wanted F_lets_pass m_lets_pass
  have g_meeting_kinds : FL.GF P w K mg base (He.ga K) "meeting_kinds" 4 2 FL.F_meeting_kinds := FL.gf_meeting_kinds T g_lets_meet g_lets_pass F_meeting_kinds m_meeting_kinds
  exact FL.ok_law T g__law_bag g__law_cell g__law_made g__law_meeting g__law_parts g__law_same g_meeting_kinds F_law
end FLH
open PySem PySem.W PySem.Calls PyProof.Rows
theorem PySem.Challenge.cw_ghostgap_k36_asks_that_meet_holds : PySem.Challenge.rw_ghostgap_k36_asks_that_meet.Holds := by
  w_on; o_law
  refine HandSHeadRun.head_any (r := OpenLaw.row PySem.Challenge.rw_ghostgap_k36_asks_that_meet) (q := view (OpenLaw.row PySem.Challenge.rw_ghostgap_k36_asks_that_meet).prog [52]) (H := FLH.hk) (ob := FLH.ob) (M := 12000) (loose := FLH.loose) (d := HandSHeadRun.topDef (OpenLaw.row PySem.Challenge.rw_ghostgap_k36_asks_that_meet).prog 52) (kwd := []) FLH.ob_eq
    (by kernel_rfl) (fun s => by kernel_rfl) FLH.run (by kernel_rfl) (by kernel_rfl) (by kernel_rfl) (by rfl) (by first | assumption | decide +kernel) (by decide +kernel) ⟨rfl, rfl, rfl, rfl, rfl, by decide +kernel⟩ ?hw ?hc
  case hw => w_witness2
  case hc =>
    refine FL.walk_F (l := PySem.Challenge.rw_ghostgap_k36_asks_that_meet) (n := 63) (k := 13) (x := "_law_script") rfl (by decide) (by kernel_rfl) ⟨rfl, by decide, by decide⟩ ?F
    intro w mg fa h Y G hmg0
    obtain ⟨K, KX, c⟩ := Y
    have hmg : mg ("law" : PySem.Str) = some (.ref fa) := by
      have e : (HandSHeadRun.topDef (OpenLaw.row PySem.Challenge.rw_ghostgap_k36_asks_that_meet).prog 52).name = ("law" : PySem.Str) := by kernel_rfl
      rw [← e]
      exact hmg0
    obtain ⟨fd, hb, hF⟩ := FLH.facts (P := (PySem.Challenge.rw_ghostgap_k36_asks_that_meet).prog) (w := w) KX G hmg c
    exact ⟨K, fd, _, KX, hb, fun H a ns hl hO hS => FL.law_end FL.law_ok hS, hF⟩
