import PyProof.Rows.All
import Wide.All
import OpenK.AllK
import Wide.FinOn
import HandS.ForSpec
import HandS.ForMost
import HandS.HeadEnd
import HandS.HeadHook2
import HandS.IsInst
import HandS.Walk
import HandS.ExcOwn
import KE.KUnpackStar
import HandS.Defaults
import HandS.Iter
import KE.GoesNew
import KE.GoesMore
import KE.GoesEnum
import KE.GoesZip
import KE.KStateDown
import HandS.Head0
import HandS.Head1
import HandS.Head2
import HandS.HeadHook1
import PySem.Challenge.RW_ghostgap_k11_keys_and_asks
set_option Elab.async false
set_option linter.all false
set_option maxRecDepth 100000
set_option maxHeartbeats 4000000
/-! FL: a functional layer over HandS. A def of the text is shown to compute a Lean function on data (trees of None, bools, ints, texts, tuples, lists, dicts, instances) and on a store of cells (what is changed in place).
 Every construct has a rule "this piece of syntax computes that function" (FE, FT, FA, FS ..); heaps are met in these rules alone. -/
namespace FL
open PySem PySem.Spec PyProof.Rows L2

/-! ### data, cells, results -/
inductive D where
  | non | bl (b : Bool) | int (i : Int) | str (s : Str)
  | tup (xs : List D) | lst (xs : List D) | scr (ns : List Int)
  | dct (kvs : List (Key × D))
  | ins (c : Str) (fs : List (Str × D))
  | ref (n : Nat)
deriving Inhabited
inductive Cell where
  | dead | lst (xs : List D) | dct (kvs : List (Key × D)) | ins (c : Str) (fs : List (Str × D))
abbrev G := List Cell
structure Exn where
  c : Str
  fs : List (Str × D)
inductive Res (α : Type) where
  | ok (a : α) (g : G) | exc (x : Exn) (g : G) | stuck
def Res.bind {α β : Type} (r : Res α) (k : α → G → Res β) : Res β := match r with
  | .ok a g => k a g
  | .exc x g => .exc x g
  | .stuck => .stuck
@[simp] theorem Res.bind_ok {α β : Type} (a : α) (g : G) (k : α → G → Res β) : (Res.ok a g).bind k = k a g := rfl
@[simp] theorem Res.bind_exc {α β : Type} (x : Exn) (g : G) (k : α → G → Res β) : (Res.exc x g : Res α).bind k = .exc x g := rfl
@[simp] theorem Res.bind_stuck {α β : Type} (k : α → G → Res β) : (Res.stuck : Res α).bind k = .stuck := rfl
/-- a slot: unknown, a value, a list or dict of the def's own that may be changed in place -/
inductive Sl where
  | un | val (d : D) | lst (xs : List D) | dct (kvs : List (Key × D))
abbrev Env := List Sl
inductive SRes where
  | next (e : Env) (g : G) | ret (d : D) (g : G) | brk (e : Env) (g : G) | cnt (e : Env) (g : G) | exc (x : Exn) (e : Env) (g : G) | stuck

/-! ### what stands for what -/
section
variable (K : PySem.W.Frag) (cls : Str → Addr) (m : List Addr) (F : Hp)
mutual
inductive Rep : V → D → Prop
  | non : Rep .non .non
  | bl (b : Bool) : Rep (.bl b) (.bl b)
  | int (i : Int) : Rep (.int i) (.int i)
  | str (x : Str) : Rep (.str x) (.str x)
  | tup {a : Addr} {xs : List V} {ds : List D} : SqT K F a xs → RepL xs ds → Rep (.ref a) (.tup ds)
  | lst {a : Addr} {xs : List V} {ds : List D} : F a = some (.lst xs) → RepL xs ds → Rep (.ref a) (.lst ds)
  | scr {a : Addr} {ns : List Int} : SqL K F a (ns.map V.int) → Rep (.ref a) (.scr ns)
  | dct {a : Addr} {xs : List (Key × V)} {ds : List (Key × D)} : F a = some (.dK xs) → RepK xs ds → Rep (.ref a) (.dct ds)
  | ins {a dx : Addr} {c : Str} {xs : List (Str × V)} {ds : List (Str × D)} : F a = some (.ins (cls c) dx xs) → RepF xs ds → Rep (.ref a) (.ins c ds)
  | ref {a : Addr} {n : Nat} : m[n]? = some a → Rep (.ref a) (.ref n)
inductive RepL : List V → List D → Prop
  | nil : RepL [] []
  | cons {v : V} {d : D} {vs : List V} {ds : List D} : Rep v d → RepL vs ds → RepL (v :: vs) (d :: ds)
inductive RepK : List (Key × V) → List (Key × D) → Prop
  | nil : RepK [] []
  | cons {k : Key} {v : V} {d : D} {vs : List (Key × V)} {ds : List (Key × D)} : Rep v d → RepK vs ds → RepK ((k, v) :: vs) ((k, d) :: ds)
inductive RepF : List (Str × V) → List (Str × D) → Prop
  | nil : RepF [] []
  | cons {k : Str} {v : V} {d : D} {vs : List (Str × V)} {ds : List (Str × D)} : Rep v d → RepF vs ds → RepF ((k, v) :: vs) ((k, d) :: ds)
end
end

/-- growth: more cells' addresses, more that is frozen -/
structure Grow (m : List Addr) (F : Hp) (m' : List Addr) (F' : Hp) : Prop where
  m : ∀ (n : Nat) (a : Addr), m[n]? = some a → m'[n]? = some a
  F : ∀ (a : Addr) (o : HO), F a = some o → F' a = some o
theorem Grow.refl (m : List Addr) (F : Hp) : Grow m F m F := ⟨fun _ _ h => h, fun _ _ h => h⟩
theorem Grow.trans {m m1 m2 : List Addr} {F F1 F2 : Hp} (a : Grow m F m1 F1) (b : Grow m1 F1 m2 F2) : Grow m F m2 F2 := ⟨fun n x h => b.m n x (a.m n x h), fun x o h => b.F x o (a.F x o h)⟩
theorem rd_mono {F F' : Hp} (h : ∀ a o, F a = some o → F' a = some o) {a : Addr} {u : HO} (r : Rd F a u) : Rd F' a u := by
  rcases r with r | ⟨o, r⟩
  · exact .inl (h _ _ r)
  · exact .inr ⟨o, h _ _ r⟩
theorem sqL_mono {K : PySem.W.Frag} {F F' : Hp} (h : ∀ a o, F a = some o → F' a = some o) {a : Addr} {xs : List V} (r : SqL K F a xs) : SqL K F' a xs := r.elim (fun r => .inl (rd_mono h r)) .inr
theorem sqT_mono {K : PySem.W.Frag} {F F' : Hp} (h : ∀ a o, F a = some o → F' a = some o) {a : Addr} {xs : List V} (r : SqT K F a xs) : SqT K F' a xs := r.elim (fun r => .inl (rd_mono h r)) .inr

section
variable {K : PySem.W.Frag} {cls : Str → Addr} {m m' : List Addr} {F F' : Hp}
mutual
theorem Rep.mono (g : Grow m F m' F') : ∀ (d : D) (v : V), Rep K cls m F v d → Rep K cls m' F' v d
  | .non, _, h => by cases h; exact .non
  | .bl _, _, h => by cases h; exact .bl _
  | .int _, _, h => by cases h; exact .int _
  | .str _, _, h => by cases h; exact .str _
  | .tup ds, _, h => by
    cases h with
    | tup a b => exact .tup (sqT_mono g.F a) (RepL.mono g ds _ b)
  | .lst ds, _, h => by
    cases h with
    | lst a b => exact .lst (g.F _ _ a) (RepL.mono g ds _ b)
  | .scr ns, _, h => by
    cases h with
    | scr a => exact .scr (sqL_mono g.F a)
  | .dct ds, _, h => by
    cases h with
    | dct a b => exact .dct (g.F _ _ a) (RepK.mono g ds _ b)
  | .ins c ds, _, h => by
    cases h with
    | ins a b => exact .ins (g.F _ _ a) (RepF.mono g ds _ b)
  | .ref n, _, h => by
    cases h with
    | ref a => exact .ref (g.m _ _ a)
theorem RepL.mono (g : Grow m F m' F') : ∀ (ds : List D) (vs : List V), RepL K cls m F vs ds → RepL K cls m' F' vs ds
  | [], _, h => by cases h; exact .nil
  | d :: ds, _, h => by
    cases h with
    | cons a b => exact .cons (Rep.mono g d _ a) (RepL.mono g ds _ b)
theorem RepK.mono (g : Grow m F m' F') : ∀ (ds : List (Key × D)) (vs : List (Key × V)), RepK K cls m F vs ds → RepK K cls m' F' vs ds
  | [], _, h => by cases h; exact .nil
  | (k, d) :: ds, _, h => by
    cases h with
    | cons a b => exact .cons (Rep.mono g d _ a) (RepK.mono g ds _ b)
theorem RepF.mono (g : Grow m F m' F') : ∀ (ds : List (Str × D)) (vs : List (Str × V)), RepF K cls m F vs ds → RepF K cls m' F' vs ds
  | [], _, h => by cases h; exact .nil
  | (k, d) :: ds, _, h => by
    cases h with
    | cons a b => exact .cons (Rep.mono g d _ a) (RepF.mono g ds _ b)
end
end

theorem RepL.length {K : PySem.W.Frag} {cls : Str → Addr} {m : List Addr} {F : Hp} : ∀ {vs : List V} {ds : List D}, RepL K cls m F vs ds → vs.length = ds.length
  | _, [], h => by cases h; rfl
  | _, d :: ds, h => by
    cases h with
    | cons a b => rw [List.length_cons, List.length_cons, RepL.length b]
theorem RepL.get {K : PySem.W.Frag} {cls : Str → Addr} {m : List Addr} {F : Hp} : ∀ {vs : List V} {ds : List D} {i : Nat} {d : D}, RepL K cls m F vs ds → ds[i]? = some d → ∃ v, vs[i]? = some v ∧ Rep K cls m F v d
  | _, [], _, _, _, e => by simp at e
  | _, d :: ds, 0, x, h, e => by
    cases h with
    | cons a b =>
      have e2 : d = x := by simpa using e
      subst e2
      exact ⟨_, rfl, a⟩
  | _, d :: ds, i + 1, x, h, e => by
    cases h with
    | cons a b =>
      obtain ⟨v, h1, h2⟩ := RepL.get (i := i) (d := x) b (by simpa using e)
      exact ⟨v, by simpa using h1, h2⟩
theorem RepL.append {K : PySem.W.Frag} {cls : Str → Addr} {m : List Addr} {F : Hp} : ∀ {vs ws : List V} {ds es : List D}, RepL K cls m F vs ds → RepL K cls m F ws es → RepL K cls m F (vs ++ ws) (ds ++ es)
  | _, _, [], _, h, q => by cases h; exact q
  | _, _, d :: ds, _, h, q => by
    cases h with
    | cons a b => exact .cons a (RepL.append b q)
theorem RepL.take {K : PySem.W.Frag} {cls : Str → Addr} {m : List Addr} {F : Hp} : ∀ (n : Nat) {vs : List V} {ds : List D}, RepL K cls m F vs ds → RepL K cls m F (vs.take n) (ds.take n)
  | 0, _, _, _ => by simpa using RepL.nil
  | n + 1, _, [], h => by cases h; exact .nil
  | n + 1, _, d :: ds, h => by
    cases h with
    | cons a b => exact .cons a (RepL.take n b)
theorem RepL.drop {K : PySem.W.Frag} {cls : Str → Addr} {m : List Addr} {F : Hp} : ∀ (n : Nat) {vs : List V} {ds : List D}, RepL K cls m F vs ds → RepL K cls m F (vs.drop n) (ds.drop n)
  | 0, _, _, h => h
  | n + 1, _, [], h => by cases h; exact .nil
  | n + 1, _, d :: ds, h => by
    cases h with
    | cons a b => exact RepL.drop n b
theorem RepL.set {K : PySem.W.Frag} {cls : Str → Addr} {m : List Addr} {F : Hp} {v : V} {d : D} (r : Rep K cls m F v d) : ∀ (i : Nat) {vs : List V} {ds : List D}, RepL K cls m F vs ds → RepL K cls m F (vs.set i v) (ds.set i d)
  | _, _, [], h => by cases h; exact .nil
  | 0, _, _ :: _, h => by
    cases h with
    | cons a b => exact .cons r b
  | i + 1, _, _ :: _, h => by
    cases h with
    | cons a b => exact .cons a (RepL.set r i b)

/-! ### the store -/
def LiveAt (m : List Addr) (g : G) (a : Addr) : Prop := ∃ (n : Nat) (c : Cell), g[n]? = some c ∧ c ≠ Cell.dead ∧ m[n]? = some a
section
variable (K : PySem.W.Frag) (cls : Str → Addr)
def CellR (m : List Addr) (F H : Hp) (a : Addr) : Cell → Prop
  | .dead => True
  | .lst ds => ∃ xs, H a = some (.lst xs) ∧ RepL K cls m F xs ds
  | .dct ds => ∃ xs, H a = some (.dK xs) ∧ RepK K cls m F xs ds
  | .ins c ds => ∃ dx xs, H a = some (.ins (cls c) dx xs) ∧ RepF K cls m F xs ds
structure World (m : List Addr) (F : Hp) (g : G) (H : Hp) : Prop where
  len : m.length = g.length
  at_ : ∀ (n : Nat) (c : Cell) (a : Addr), g[n]? = some c → m[n]? = some a → CellR K cls m F H a c
  nf : ∀ (n : Nat) (c : Cell) (a : Addr), g[n]? = some c → c ≠ .dead → m[n]? = some a → F a = none
  inj : ∀ (n n' : Nat) (c c' : Cell) (a : Addr), g[n]? = some c → c ≠ .dead → g[n']? = some c' → c' ≠ .dead → m[n]? = some a → m[n']? = some a → n = n'
  fe : ∀ (a : Addr) (o : HO), F a = some o → H a = some o
end
/-- where a def began -/
structure Base where
  m : List Addr
  F : Hp
  g : G
  H : Hp
/-- from there to here -/
structure Step (B : Base) (m : List Addr) (F : Hp) (g : G) (H : Hp) : Prop where
  grow : Grow B.m B.F m F
  fr : ∀ (a : Addr) (o : HO), B.H a = some o → ¬ LiveAt B.m B.g a → H a = some o
  nF : ∀ (a : Addr), F a ≠ none → B.F a = none → B.H a = none ∨ LiveAt B.m B.g a
  nL : ∀ (a : Addr), LiveAt m g a → LiveAt B.m B.g a ∨ B.H a = none
  tr : ∀ (a : Addr), H a = none → B.H a = none
theorem Step.refl (m : List Addr) (F : Hp) (g : G) (H : Hp) : Step ⟨m, F, g, H⟩ m F g H := ⟨Grow.refl _ _, fun _ _ h _ => h, fun _ h q => absurd q h, fun _ h => .inl h, fun _ h => h⟩
theorem Step.back {B : Base} {m : List Addr} {F : Hp} {g : G} {H : Hp} (s : Step B m F g H) {a : Addr} (h : H a = none) : B.H a = none ∨ LiveAt B.m B.g a := by
  cases e : B.H a with
  | none => exact .inl rfl
  | some o =>
    by_cases l : LiveAt B.m B.g a
    · exact .inr l
    · rw [s.fr a o e l] at h
      cases h
theorem Step.trans {B : Base} {m m' : List Addr} {F F' : Hp} {g g' : G} {H H' : Hp} (s : Step B m F g H) (t : Step ⟨m, F, g, H⟩ m' F' g' H') : Step B m' F' g' H' := by
  refine ⟨s.grow.trans t.grow, fun a o e l => ?_, fun a h q => ?_, fun a l => ?_, fun a h => s.tr a (t.tr a h)⟩
  · have e1 := s.fr a o e l
    refine t.fr a o e1 fun l1 => ?_
    rcases s.nL a l1 with z | z
    · exact l z
    · rw [e] at z
      cases z
  · cases e : F a with
    | none =>
      rcases t.nF a h e with z | z
      · exact s.back z
      · exact (s.nL a z).symm
    | some o => exact s.nF a (by rw [e]; exact fun z => by cases z) q
  · rcases t.nL a l with z | z
    · exact s.nL a z
    · exact (s.back z).symm

/-! the slots -/
section
variable (K : PySem.W.Frag) (cls : Str → Addr)
def SlotR (m : List Addr) (F H : Hp) (σ : L2.St) (i : Nat) (os : Nat → Option Addr) : Sl → Prop
  | .un => os i = none
  | .val d => os i = none ∧ ∃ v, σ[i]? = some (some v) ∧ Rep K cls m F v d
  | .lst ds => ∃ l xs, os i = some l ∧ σ[i]? = some (some (.ref l)) ∧ H l = some (.lst xs) ∧ RepL K cls m F xs ds
  | .dct ds => ∃ l xs, os i = some l ∧ σ[i]? = some (some (.ref l)) ∧ H l = some (.dK xs) ∧ RepK K cls m F xs ds
structure Rl (m : List Addr) (F : Hp) (g : G) (H : Hp) (env : Env) (os : Nat → Option Addr) (σ : L2.St) : Prop where
  w : World K cls m F g H
  sl : ∀ (i : Nat) (s : Sl), env[i]? = some s → SlotR K cls m F H σ i os s
  len : σ.length = env.length
  own : ∀ (i : Nat) (l : Addr), os i = some l → F l = none ∧ ¬ LiveAt m g l ∧ H l ≠ none ∧ i < env.length
  inj : ∀ (i j : Nat) (l : Addr), os i = some l → os j = some l → i = j
/-- within a def that began at B -/
structure RlB (B : Base) (m : List Addr) (F : Hp) (g : G) (H : Hp) (env : Env) (os : Nat → Option Addr) (σ : L2.St) : Prop where
  r : Rl K cls m F g H env os σ
  st : Step B m F g H
  own : ∀ (i : Nat) (l : Addr), os i = some l → B.H l = none
end
section
variable {K : PySem.W.Frag} {cls : Str → Addr} {B : Base} {m m' : List Addr} {F F' : Hp} {g g' : G} {H H' : Hp} {env : Env} {os : Nat → Option Addr} {σ : L2.St}
/-- the frame: behind something that kept all but the live cells -/
theorem Rl.step (r : Rl K cls m F g H env os σ) (t : Step ⟨m, F, g, H⟩ m' F' g' H') (w : World K cls m' F' g' H') : Rl K cls m' F' g' H' env os σ := by
  have hk : ∀ i l, os i = some l → H' l = H l ∧ F' l = none ∧ ¬ LiveAt m' g' l := fun i l e => by
    obtain ⟨h1, h2, h4, h5⟩ := r.own i l e
    cases q : H l with
    | none => exact absurd q h4
    | some o =>
      refine ⟨t.fr l o q h2, ?_, fun z => ?_⟩
      · cases z : F' l with
        | none => rfl
        | some u =>
          rcases t.nF l (by rw [z]; exact fun y => by cases y) h1 with y | y
          · exact absurd (show H l = none from y) h4
          · exact absurd y h2
      · rcases t.nL l z with y | y
        · exact h2 y
        · exact absurd (show H l = none from y) h4
  refine ⟨w, fun i s e => ?_, r.len, fun i l e => ?_, r.inj⟩
  · have h := r.sl i s e
    cases s with
    | un => exact h
    | val d =>
      obtain ⟨o, v, h1, h2⟩ := h
      exact ⟨o, v, h1, Rep.mono t.grow _ _ h2⟩
    | lst ds =>
      obtain ⟨l, xs, h1, h2, h3, h4⟩ := h
      exact ⟨l, xs, h1, h2, (hk i l h1).1.trans h3, RepL.mono t.grow _ _ h4⟩
    | dct ds =>
      obtain ⟨l, xs, h1, h2, h3, h4⟩ := h
      exact ⟨l, xs, h1, h2, (hk i l h1).1.trans h3, RepK.mono t.grow _ _ h4⟩
  · obtain ⟨h1, h2, h4, h5⟩ := r.own i l e
    obtain ⟨k1, k2, k3⟩ := hk i l e
    exact ⟨k2, k3, by rw [k1]; exact h4, h5⟩
theorem RlB.step (r : RlB K cls B m F g H env os σ) (t : Step ⟨m, F, g, H⟩ m' F' g' H') (w : World K cls m' F' g' H') : RlB K cls B m' F' g' H' env os σ :=
  ⟨r.r.step t w, r.st.trans t, r.own⟩
theorem LiveAt.tracked (w : World K cls m F g H) {a : Addr} (l : LiveAt m g a) : H a ≠ none := by
  obtain ⟨n, c, h1, h2, h3⟩ := l
  have h := w.at_ n c a h1 h3
  cases c with
  | dead => exact absurd rfl h2
  | lst ds => obtain ⟨xs, e, _⟩ := h; rw [e]; exact fun z => by cases z
  | dct ds => obtain ⟨xs, e, _⟩ := h; rw [e]; exact fun z => by cases z
  | ins c ds => obtain ⟨dx, xs, e, _⟩ := h; rw [e]; exact fun z => by cases z
theorem CellR.mono (gr : Grow m F m' F') {a : Addr} {c : Cell} (e : H' a = H a) (h : CellR K cls m F H a c) : CellR K cls m' F' H' a c := by
  cases c with
  | dead => trivial
  | lst ds => obtain ⟨xs, q, r⟩ := h; exact ⟨xs, e.trans q, RepL.mono gr _ _ r⟩
  | dct ds => obtain ⟨xs, q, r⟩ := h; exact ⟨xs, e.trans q, RepK.mono gr _ _ r⟩
  | ins c ds => obtain ⟨dx, xs, q, r⟩ := h; exact ⟨dx, xs, e.trans q, RepF.mono gr _ _ r⟩
theorem up_none {H : Hp} {p a : Addr} {o : HO} (h : upd H p o a = none) : H a = none := by
  by_cases z : a = p
  · subst z
    rw [upd_same] at h
    cases h
  · rw [upd_ne z] at h
    exact h
theorem grow_new {p : Addr} {o : HO} (hF : F p = none) : Grow m F m (upd F p o) := ⟨fun _ _ h => h, fun a u e => by rw [upd_ne (ne_of_none e hF)]; exact e⟩
/-- a new frozen object -/
theorem World.new (w : World K cls m F g H) {p : Addr} {o : HO} (hp : H p = none) : World K cls m (upd F p o) g (upd H p o) ∧ Step ⟨m, F, g, H⟩ m (upd F p o) g (upd H p o) := by
  have hF : F p = none := by
    cases e : F p with
    | none => rfl
    | some u =>
      rw [w.fe p u e] at hp
      cases hp
  have gr : Grow m F m (upd F p o) := grow_new hF
  have ne : ∀ a, LiveAt m g a → a ≠ p := fun a l z => l.tracked w (z ▸ hp)
  refine ⟨⟨w.len, fun n c a h1 h2 => ?_, fun n c a h1 h2 h3 => ?_, w.inj, fun a u e => ?_⟩, ⟨gr, fun a u e _ => ?_, fun a h q => ?_, fun a l => .inl l, fun a h => up_none h⟩⟩
  · by_cases hc : c = .dead
    · subst hc; trivial
    · exact CellR.mono gr (upd_ne (ne a ⟨n, c, h1, hc, h2⟩)) (w.at_ n c a h1 h2)
  · rw [upd_ne (ne a ⟨n, c, h1, h2, h3⟩)]
    exact w.nf n c a h1 h2 h3
  · by_cases z : a = p
    · subst z
      rw [upd_same] at e ⊢
      exact e
    · rw [upd_ne z] at e ⊢
      exact w.fe a u e
  · rw [upd_ne (ne_of_none e hp)]
    exact e
  · by_cases z : a = p
    · subst z
      exact .inl hp
    · rw [upd_ne z] at h
      exact absurd q h
theorem World.hF (w : World K cls m F g H) {p : Addr} (hp : H p = none) : F p = none := by
  cases e : F p with
  | none => rfl
  | some u =>
    rw [w.fe p u e] at hp
    cases hp
end

/-! ### results of expressions -/
section
variable (K : PySem.W.Frag) (cls : Str → Addr)
def ExnR (m : List Addr) (F : Hp) (cl : Value) (dx : Option Addr) (x : Exn) : Prop := cl = .ref (cls x.c) ∧ ∃ d xs, dx = some d ∧ F d = some (.xd xs) ∧ RepF K cls m F xs x.fs
/-- what is wanted of a result -/
def Sat {α β : Type} (W : WX) (σ : L2.St) (rep : List Addr → Hp → β → α → Prop) (S : Base) : Res α → (β → Hp → Prop) → Prop
  | .ok a g', Q => ∀ v m' F' H', Step S m' F' g' H' → World K cls m' F' g' H' → rep m' F' v a → Q v H'
  | .exc x g', _ => ∀ cl dx m' F' H', Step S m' F' g' H' → World K cls m' F' g' H' → ExnR K cls m' F' cl dx x → W cl dx σ H'
  | .stuck, _ => False
end
section
variable {K : PySem.W.Frag} {cls : Str → Addr} {W : WX} {σ : L2.St} {α β γ δ : Type} {rep : List Addr → Hp → β → α → Prop} {rep2 : List Addr → Hp → δ → γ → Prop} {S : Base}
theorem Sat.mono {r : Res α} {Q : β → Hp → Prop} {m' : List Addr} {F' : Hp} {g' : G} {H' : Hp} (h : Sat K cls W σ rep S r Q) (t : Step S m' F' g' H') : Sat K cls W σ rep ⟨m', F', g', H'⟩ r Q := by
  cases r with
  | ok a g => exact fun v m2 F2 H2 s w q => h v m2 F2 H2 (t.trans s) w q
  | exc x g => exact fun cl dx m2 F2 H2 s w q => h cl dx m2 F2 H2 (t.trans s) w q
  | stuck => exact h
theorem Sat.bind {r : Res α} {k : α → G → Res γ} {Q : δ → Hp → Prop} {Q1 : β → Hp → Prop} (h : Sat K cls W σ rep2 S (r.bind k) Q)
    (hq : ∀ a g' v m' F' H', Step S m' F' g' H' → World K cls m' F' g' H' → rep m' F' v a → Sat K cls W σ rep2 ⟨m', F', g', H'⟩ (k a g') Q → Q1 v H') : Sat K cls W σ rep S r Q1 := by
  cases r with
  | ok a g => exact fun v m' F' H' s w q => hq a g v m' F' H' s w q (Sat.mono (show Sat K cls W σ rep2 S (k a g) Q from h) s)
  | exc x g => exact h
  | stuck => exact h
end
end FL

namespace FL
open PySem PySem.Spec PyProof.Rows L2

/-! ### the judgements: a reading computes a function; a piece of syntax has that reading -/
section
variable (K : PySem.W.Frag) (cls : Str → Addr) (W : WX)
def SE (t : TE) (f : Env → G → Res D) : Prop := ∀ m F g H env os σ (Q : VK), Rl K cls m F g H env os σ → Sat K cls W σ (Rep K cls) ⟨m, F, g, H⟩ (f env g) Q → t σ H Q
def ST (t : TT) (f : Env → G → Res Bool) : Prop := ∀ m F g H env os σ (Q : Bool → Hp → Prop), Rl K cls m F g H env os σ → Sat K cls W σ (fun _ _ (b : Bool) (c : Bool) => b = c) ⟨m, F, g, H⟩ (f env g) Q → t σ H Q
def SA (t : TA) (f : Env → G → Res (List D)) : Prop := ∀ m F g H env os σ (Q : List V → Hp → Prop), Rl K cls m F g H env os σ → Sat K cls W σ (RepL K cls) ⟨m, F, g, H⟩ (f env g) Q → t σ H Q
end
section
variable (cls : Str → Addr) (X : Cx) (W : WX)
structure FE (e : Expr) (t : TE) (f : Env → G → Res D) : Prop where
  p : PE X e t
  s : SE X.K cls W t f
structure FT (e : Expr) (t : TT) (f : Env → G → Res Bool) : Prop where
  p : PT X e t
  s : ST X.K cls W t f
structure FW (e : Expr) (t : TT) (f : Env → G → Res Bool) : Prop where
  p : PW X e t
  s : ST X.K cls W t f
structure FA (es : List Expr) (t : TA) (f : Env → G → Res (List D)) : Prop where
  p : PA X es t
  s : SA X.K cls W t f
end

/-! ### functions -/
def fVar (i : Nat) : Env → G → Res D := fun env g => match env[i]? with
  | some (.val d) => .ok d g
  | _ => .stuck
def fC (d : D) : Env → G → Res D := fun _ g => .ok d g
def f1 (op : D → G → Res D) (fa : Env → G → Res D) : Env → G → Res D := fun env g => (fa env g).bind op
def f2 (op : D → D → G → Res D) (fa fb : Env → G → Res D) : Env → G → Res D := fun env g => (fa env g).bind fun a g1 => (fb env g1).bind (op a)
def fNilA : Env → G → Res (List D) := fun _ g => .ok [] g
def fConsA (fa : Env → G → Res D) (fr : Env → G → Res (List D)) : Env → G → Res (List D) := fun env g => (fa env g).bind fun a g1 => (fr env g1).bind fun r g2 => .ok (a :: r) g2
def fTup (fa : Env → G → Res (List D)) : Env → G → Res D := fun env g => (fa env g).bind fun ds g1 => if ds.length ≤ sizeLine then .ok (.tup ds) g1 else .stuck
def fLst (fa : Env → G → Res (List D)) : Env → G → Res D := fun env g => (fa env g).bind fun ds g1 => if ds.length ≤ sizeLine then .ok (.lst ds) g1 else .stuck
/-- a bool, else stuck -/
def asB (d : D) (g : G) : Res Bool := match d with
  | .bl b => .ok b g
  | _ => .stuck
def fTest (fa : Env → G → Res D) : Env → G → Res Bool := fun env g => (fa env g).bind asB
def fAndT (fa fb : Env → G → Res Bool) : Env → G → Res Bool := fun env g => (fa env g).bind fun a g1 => if a = true then fb env g1 else .ok false g1
def fOrT (fa fb : Env → G → Res Bool) : Env → G → Res Bool := fun env g => (fa env g).bind fun a g1 => if a = true then .ok true g1 else fb env g1
def fNotT (fa : Env → G → Res Bool) : Env → G → Res Bool := fun env g => (fa env g).bind fun a g1 => .ok (!a) g1
def fAndV (fa fb : Env → G → Res D) : Env → G → Res D := fun env g => (fa env g).bind fun a g1 => match a with
  | .bl true => fb env g1
  | .bl false => .ok (.bl false) g1
  | _ => .stuck
def fOrV (fa fb : Env → G → Res D) : Env → G → Res D := fun env g => (fa env g).bind fun a g1 => match a with
  | .bl true => .ok (.bl true) g1
  | .bl false => fb env g1
  | _ => .stuck
def fNotV (fa : Env → G → Res D) : Env → G → Res D := fun env g => (fa env g).bind fun a g1 => match a with
  | .bl b => .ok (.bl (!b)) g1
  | _ => .stuck
def fIf (fc : Env → G → Res Bool) (fa fb : Env → G → Res D) : Env → G → Res D := fun env g => (fc env g).bind fun c g1 => if c = true then fa env g1 else fb env g1
/-- a call of a function on data -/
def fCall (Fn : List D → G → Res D) (fa : Env → G → Res (List D)) : Env → G → Res D := fun env g => (fa env g).bind Fn

section
variable {K : PySem.W.Frag} {cls : Str → Addr} {W : WX} {ta tb tc te : TE} {fa fb fc fe : Env → G → Res D} {tA tB' : TA} {gA gB : Env → G → Res (List D)} {t u : TT} {p q : Env → G → Res Bool}
theorem world_refl {m : List Addr} {F : Hp} {g : G} {H : Hp} {env : Env} {os : Nat → Option Addr} {σ : L2.St} (r : Rl K cls m F g H env os σ) : World K cls m F g H := r.w
/-- the end of a rule: nothing changed -/
theorem Sat.here {α β : Type} {σ : L2.St} {rep : List Addr → Hp → β → α → Prop} {m : List Addr} {F : Hp} {g : G} {H : Hp} {a : α} {v : β} {Q : β → Hp → Prop} (h : Sat K cls W σ rep ⟨m, F, g, H⟩ (.ok a g) Q) (w : World K cls m F g H) (r : rep m F v a) : Q v H :=
  h v m F H (Step.refl _ _ _ _) w r
/-- a new frozen object -/
theorem Sat.new {σ : L2.St} {m : List Addr} {F : Hp} {g : G} {H : Hp} {d : D} {p : Addr} {o : HO} {Q : VK} (h : Sat K cls W σ (Rep K cls) ⟨m, F, g, H⟩ (.ok d g) Q) (w : World K cls m F g H) (hp : H p = none) (r : Rep K cls m (upd F p o) (.ref p) d) : Q (.ref p) (upd H p o) :=
  h _ m (upd F p o) (upd H p o) (w.new hp).2 (w.new hp).1 r
theorem se_var (i : Nat) : SE K cls W (tVar i) (fVar i) := fun m F g H env os σ Q r h => by
  unfold fVar at h
  split at h
  · rename_i d e
    obtain ⟨_, v, h1, h2⟩ := r.sl i _ e
    exact ⟨v, h1, h.here r.w h2⟩
  · exact h.elim
theorem se_c {v : V} {d : D} (hr : ∀ m F, Rep K cls m F v d) : SE K cls W (tC v) (fC d) := fun m F g H env os σ Q r h => h.here r.w (hr m F)
/-- an operation on two values -/
def OpS (K : PySem.W.Frag) (cls : Str → Addr) (W : WX) (r : R2) (op : D → D → G → Res D) : Prop := ∀ m F g H σ (Q : VK) x y a b, World K cls m F g H → Rep K cls m F x a → Rep K cls m F y b → Sat K cls W σ (Rep K cls) ⟨m, F, g, H⟩ (op a b g) Q → r x y H Q
def UnS (K : PySem.W.Frag) (cls : Str → Addr) (W : WX) (r : V → Hp → VK → Prop) (op : D → G → Res D) : Prop := ∀ m F g H σ (Q : VK) x a, World K cls m F g H → Rep K cls m F x a → Sat K cls W σ (Rep K cls) ⟨m, F, g, H⟩ (op a g) Q → r x H Q
def CallS (K : PySem.W.Frag) (cls : Str → Addr) (W : WX) (r : List V → Hp → VK → Prop) (op : List D → G → Res D) : Prop := ∀ m F g H σ (Q : VK) xs as, World K cls m F g H → RepL K cls m F xs as → Sat K cls W σ (Rep K cls) ⟨m, F, g, H⟩ (op as g) Q → r xs H Q
theorem se_op {r : R2} {op : D → D → G → Res D} (hr : OpS K cls W r op) (ha : SE K cls W ta fa) (hb : SE K cls W tb fb) : SE K cls W (tOp r ta tb) (f2 op fa fb) := fun m F g H env os σ Q rl h =>
  ha m F g H env os σ _ rl (h.bind fun a g1 x m1 F1 H1 s1 w1 r1 h1 => hb m1 F1 g1 H1 env os σ _ (rl.step s1 w1) (h1.bind fun b g2 y m2 F2 H2 s2 w2 r2 h2 => hr m2 F2 g2 H2 σ Q x y a b w2 (Rep.mono s2.grow _ _ r1) r2 h2))
theorem se_un {r : V → Hp → VK → Prop} {op : D → G → Res D} (hr : UnS K cls W r op) (ha : SE K cls W ta fa) : SE K cls W (tUn r ta) (f1 op fa) := fun m F g H env os σ Q rl h =>
  ha m F g H env os σ _ rl (h.bind fun a g1 x m1 F1 H1 s1 w1 r1 h1 => hr m1 F1 g1 H1 σ Q x a w1 r1 h1)
theorem sa_nil : SA K cls W tNil fNilA := fun m F g H env os σ Q rl h => h.here rl.w .nil
theorem sa_cons (ha : SE K cls W ta fa) (hr : SA K cls W tA gA) : SA K cls W (tCons ta tA) (fConsA fa gA) := fun m F g H env os σ Q rl h =>
  ha m F g H env os σ _ rl (h.bind fun a g1 x m1 F1 H1 s1 w1 r1 h1 => hr m1 F1 g1 H1 env os σ _ (rl.step s1 w1) (h1.bind fun b g2 y m2 F2 H2 s2 w2 r2 h2 => h2.here w2 (.cons (Rep.mono s2.grow _ _ r1) r2)))
theorem sqT_new {F : Hp} {p : Addr} {xs : List V} : SqT K (upd F p (.tup xs)) p xs := .inl (.inl upd_same)
theorem se_tup (ha : SA K cls W tA gA) : SE K cls W (tTup tA) (fTup gA) := fun m F g H env os σ Q rl h =>
  ha m F g H env os σ _ rl (h.bind fun ds g1 xs m1 F1 H1 s1 w1 r1 h1 => by
    split at h1
    · rename_i hl
      refine ⟨by rw [r1.length]; exact hl, fun p hp => h1.new w1 hp (.tup sqT_new (RepL.mono (grow_new (w1.hF hp)) _ _ r1))⟩
    · exact h1.elim)
theorem se_lst (ha : SA K cls W tA gA) : SE K cls W (tLst tA) (fLst gA) := fun m F g H env os σ Q rl h =>
  ha m F g H env os σ _ rl (h.bind fun ds g1 xs m1 F1 H1 s1 w1 r1 h1 => by
    split at h1
    · rename_i hl
      refine ⟨by rw [r1.length]; exact hl, fun p hp => h1.new w1 hp (.lst upd_same (RepL.mono (grow_new (w1.hF hp)) _ _ r1))⟩
    · exact h1.elim)
theorem se_call {r : List V → Hp → VK → Prop} {op : List D → G → Res D} (hr : CallS K cls W r op) (ha : SA K cls W tA gA) : SE K cls W (tCB r tA) (fCall op gA) := fun m F g H env os σ Q rl h =>
  ha m F g H env os σ _ rl (h.bind fun ds g1 xs m1 F1 H1 s1 w1 r1 h1 => hr m1 F1 g1 H1 σ Q xs ds w1 r1 h1)
theorem st_test (ha : SE K cls W ta fa) : ST K cls W (tTest ta) (fTest fa) := fun m F g H env os σ Q rl h =>
  ha m F g H env os σ _ rl (h.bind fun a g1 x m1 F1 H1 s1 w1 r1 h1 => by
    cases a with
    | bl b =>
      cases r1
      exact ⟨b, rfl, h1.here w1 rfl⟩
    | _ => exact h1.elim)
theorem st_B (ha : SE K cls W ta fa) : ST K cls W (L2.tB ta) (fTest fa) := st_test ha
theorem st_and (h1 : ST K cls W t p) (h2 : ST K cls W u q) : ST K cls W (tAnd t u) (fAndT p q) := fun m F g H env os σ Q rl h =>
  h1 m F g H env os σ _ rl (h.bind fun a g1 x m1 F1 H1 s1 w1 r1 h' => by
    cases r1
    split
    · rename_i e
      rw [if_pos e] at h'
      exact h2 m1 F1 g1 H1 env os σ Q (rl.step s1 w1) h'
    · rename_i e
      rw [if_neg e] at h'
      exact h'.here w1 rfl)
theorem st_or (h1 : ST K cls W t p) (h2 : ST K cls W u q) : ST K cls W (tOr t u) (fOrT p q) := fun m F g H env os σ Q rl h =>
  h1 m F g H env os σ _ rl (h.bind fun a g1 x m1 F1 H1 s1 w1 r1 h' => by
    cases r1
    split
    · rename_i e
      rw [if_pos e] at h'
      exact h'.here w1 rfl
    · rename_i e
      rw [if_neg e] at h'
      exact h2 m1 F1 g1 H1 env os σ Q (rl.step s1 w1) h')
theorem st_not (h1 : ST K cls W t p) : ST K cls W (tNot t) (fNotT p) := fun m F g H env os σ Q rl h =>
  h1 m F g H env os σ _ rl (h.bind fun a g1 x m1 F1 H1 s1 w1 r1 h' => by
    cases r1
    exact h'.here w1 rfl)
theorem se_andV (ha : SE K cls W ta fa) (hb : SE K cls W tb fb) : SE K cls W (tAndV ta tb) (fAndV fa fb) := fun m F g H env os σ Q rl h =>
  ha m F g H env os σ _ rl (h.bind fun a g1 x m1 F1 H1 s1 w1 r1 h' => by
    cases a with
    | bl b =>
      cases r1
      cases b with
      | true => exact ⟨true, rfl, hb m1 F1 g1 H1 env os σ Q (rl.step s1 w1) h'⟩
      | false => exact ⟨false, rfl, h'.here w1 (.bl _)⟩
    | _ => exact h'.elim)
theorem se_orV (ha : SE K cls W ta fa) (hb : SE K cls W tb fb) : SE K cls W (tOrV ta tb) (fOrV fa fb) := fun m F g H env os σ Q rl h =>
  ha m F g H env os σ _ rl (h.bind fun a g1 x m1 F1 H1 s1 w1 r1 h' => by
    cases a with
    | bl b =>
      cases r1
      cases b with
      | false => exact ⟨false, rfl, hb m1 F1 g1 H1 env os σ Q (rl.step s1 w1) h'⟩
      | true => exact ⟨true, rfl, h'.here w1 (.bl _)⟩
    | _ => exact h'.elim)
theorem se_notV (ha : SE K cls W ta fa) : SE K cls W (tNotV ta) (fNotV fa) := fun m F g H env os σ Q rl h =>
  ha m F g H env os σ _ rl (h.bind fun a g1 x m1 F1 H1 s1 w1 r1 h' => by
    cases a with
    | bl b =>
      cases r1
      exact ⟨b, rfl, h'.here w1 (.bl _)⟩
    | _ => exact h'.elim)
theorem se_if (hc : ST K cls W t p) (ha : SE K cls W ta fa) (hb : SE K cls W tb fb) : SE K cls W (tIf t ta tb) (fIf p fa fb) := fun m F g H env os σ Q rl h =>
  hc m F g H env os σ _ rl (h.bind fun a g1 x m1 F1 H1 s1 w1 r1 h' => by
    cases r1
    split
    · rename_i e
      rw [if_pos e] at h'
      exact ha m1 F1 g1 H1 env os σ Q (rl.step s1 w1) h'
    · rename_i e
      rw [if_neg e] at h'
      exact hb m1 F1 g1 H1 env os σ Q (rl.step s1 w1) h')
end
end FL

/-! rules of the machine that the hand layer lacks: () + t, the whole slice of a tuple, d[k] and k in d by values -/
namespace FR
open PySem PySem.Spec PyProof.Rows L2
theorem tuple_addW0 (l b : Addr) (items items2 : Array Value) (n n2 : Nat) (dd dd2 : Option Addr) (sl sl2 : Array (Option Value)) (hc0 : items.isEmpty = true) :
    Meets (Builtin.«tuple.__add__» ⟨[.ref l, .ref b], []⟩) (fun _ R s => s.heap.get? l = some { cls := .type "tuple", dict := dd, data := .seq items n, slots := sl } ∧ s.heap.get? b = some { cls := .type "tuple", dict := dd2, data := .seq items2 n2, slots := sl2 } ∧ R (.ok (.ret (Value.ref b))) { s with heap := s.heap, toks := s.toks }) :=
  .of_wp fun prog w A R s h => by obtain ⟨hp, g, d, tk, os⟩ := s; obtain ⟨hl, hb, h⟩ := h; have f1 := AutoSeq1.idx_int; have f2 := AutoSeq1.sub_tuple_tuple; have f3 := AutoSeq1.sub_list_list; have f4 := AutoSeq1.sub_tuple_list; have f5 := AutoSeq1.sub_list_tuple; wp_walk using wpAny_loadPart' hl, wpAny_loadPart' hb; exact ⟨_, rfl, h⟩
section
variable {prog : Program} {w : World} {A : Around} {E : Value → Shared → Prop} {s : Shared}
/-- () + t is t -/
theorem cat_tup0 {t b : Addr} {ws : List Value} {Q : Value → Shared → Prop} (ht : IsTup s.heap t ([] : List Value).toArray) (hb : IsTup s.heap b ws.toArray) (h1 : Q (.ref b) s) : wpAny (model prog w) A (binaryOp .Add (.ref t) (.ref b)) Q E s := by
  obtain ⟨⟨cls, dd, data, sl⟩, ho, hc, n, hd⟩ := id ht
  obtain ⟨⟨cls2, dd2, data2, sl2⟩, ho2, hc2, n2, hd2⟩ := id hb
  simp only at hc hd hc2 hd2
  subst hc hd hc2 hd2
  exact concat_meets ⟨_, ho, rfl⟩ ⟨_, ho2, rfl⟩ noFill_tuple_add seq_tuple_add PySem.F.slot_tuple_add PySem.F.entry_tuple_add (PySem.F.args_tuple_add_2 _ _)
      (tuple_addW0 t b ([] : List Value).toArray ws.toArray n n2 dd dd2 sl sl2 rfl) ⟨ho, ho2, h1⟩
open HT
/-- t[0:] is t -/
theorem getItem_tuple_whole {t sl : Addr} {items : Array Value} {vl vu : Value} {lo hi : Option Int} {Q : Value → Shared → Prop} (ht : IsTup s.heap t items) (hs : s.heap.IsSliceOf sl vl vu .none) (pl : IsPart vl lo) (pu : IsPart vu hi)
    (hw : sIx items.size 0 lo = 0 ∧ sIx items.size items.size hi = items.size)
    (h : Q (.ref t) s)
    (hsz : items.size ≤ sizeLine) : wpAny (model prog w) A (getItem (.ref t) (.ref sl)) Q E s := by
  obtain ⟨os, hos, hcs, hds⟩ := id hs
  have hTs : s.TypeIs (.ref sl) "slice" := ⟨os, hos, hcs⟩
  unfold getItem
  try with_reducible refine wpAny_holding ?_
  first | refine wpAny_bind (wpAny_pure ?_) | skip
  refine wpAny_bind (wpAny_sequenceKey ht.typeIs (by decide) ?_)
  refine wpAny_bind (wpAny_callSpecial?_slot (name := Str.ofString "__getitem__") ht.typeIs PyProof.Rows.slot_tuple_getitem
    (wpAny_call_entry PyProof.Rows.slot_tuple_getitem ht.typeIs entry_tuple_getitem ?_ (args_tuple_getitem _ _)))
  show wpAny _ _ (Builtin.Tuple.tupleItemsOf (.ref t) >>= _) _ _ s
  refine wpAny_bind (tupleItemsOf_ ht ?_)
  refine wpAny_bind (wpAny_typeOf hTs ?_)
  rw [if_pos (by decide)]
  refine wpAny_bind (sliceApplied_gen hs pl pu ?_)
  have hyes : ((((sIx items.size 0 lo : Nat) : Int) == 0 && (1 : Int) == 1 && (sIx items.size items.size hi - sIx items.size 0 lo) == items.size) = true) := by
    rw [hw.1, hw.2]; simp
  show wpAny _ _ (if (((sIx items.size 0 lo : Nat) : Int) == 0 && (1 : Int) == 1 && (sIx items.size items.size hi - sIx items.size 0 lo) == items.size) = true then _ else _) _ _ s
  rw [if_pos hyes]
  unfold Builtin.Tuple.tupleIsExact
  have hT : s.TypeIs (.ref t) "tuple" := ht.typeIs
  refine wpAny_bind ?_
  refine wpAny_bind (wpAny_typeOf hT ?_)
  refine wpAny_pure ?_
  rw [if_pos (beq_self_eq_true _)]
  refine wpAny_bind (wpAny_rule ?_)
  exact wpAny_pure ⟨_, rfl, wpAny_pure h⟩
end
open L2
theorem opr_or {X : Cx} {f : Value → Value → Sem Value} {r r' : R2} (h : OpR X f r) (h' : OpR X f r') : OpR X f (fun x y H Q => r x y H Q ∨ r' x y H Q) := by
  intro pins s σ H x y v u Q I rx ry q
  rcases q with q | q
  · exact h pins s σ H x y v u Q I rx ry q
  · exact h' pins s σ H x y v u Q I rx ry q
theorem callr_or {X : Cx} {f : Value} {r r' : List V → Hp → VK → Prop} (h : CallR X f r) (h' : CallR X f r') : CallR X f (fun xs H Q => r xs H Q ∨ r' xs H Q) := by
  intro pins s σ H xs us Q I rx q
  rcases q with q | q
  · exact h pins s σ H xs us Q I rx q
  · exact h' pins s σ H xs us Q I rx q
/-- t + u, tuples: the left empty too -/
def rCatT0 (K : PySem.W.Frag) : R2 := fun x y H Q => ∃ a b ys, x = .ref a ∧ y = .ref b ∧ SqT K H a [] ∧ SqT K H b ys ∧ Q (.ref b) H
theorem op_catT0 {X : Cx} : OpR X (binaryOp .Add) (rCatT0 X.K) := by
  intro pins s σ H x y v u Q I rx ry h
  obtain ⟨a, b, ys, rfl, rfl, ha, hb, q⟩ := h
  cases rx
  cases ry
  obtain ⟨its, r1, p1, _⟩ := I.tuple ha
  obtain ⟨its2, r2, p2, _⟩ := I.tuple hb
  cases r1
  exact cat_tup0 p1 p2 ⟨.ref b, H, I, rfl, q⟩
def rSlT1 (K : PySem.W.Frag) : V → Option Int → Option Int → Hp → VK → Prop := fun x lo hi H Q => ∃ a xs, x = .ref a ∧ SqT K H a xs ∧
  (HT.sIx xs.length 0 lo = 0 ∧ HT.sIx xs.length xs.length hi = xs.length) ∧ Q (.ref a) H
theorem sl_tup1 {X : Cx} : SlR X (rSlT1 X.K) := by
  intro pins s σ H x v vl vu lo hi sl Q I rx hs pl pu h
  obtain ⟨a, xs, rfl, hx, hw, q⟩ := h
  cases rx
  obtain ⟨its, r, ht, hz⟩ := I.tuple hx
  have hlen : its.toArray.size = xs.length := by rw [List.size_toArray]; exact r.length.symm
  refine ⟨"tuple", _, PyProof.Rows.slot_tuple_getitem.lookup, ht.typeIs, ?_⟩
  exact getItem_tuple_whole ht hs pl pu (by rw [hlen]; exact hw) ⟨.ref a, H, I, rfl, q⟩ (by rw [hlen]; exact hz)
/-- d[k] by values -/
def rIxD : R2 := fun x y H Q => ∃ a v, x = .ref a ∧ DGet H a y (some v) ∧ Q v H
theorem ix_dict {X : Cx} (hu : X.A.units + 1 < cLine) : IxR X rIxD := by
  intro value slice pins s σ H x y v u Q I rx ry h hs
  obtain ⟨a, z, rfl, g, q⟩ := h
  cases rx
  exact tail_any (dict_typeIs I g) PySem.F.slot_dict_getitem.lookup (d_getItem hu I g ry fun w' s' I' rw' => ⟨z, H, I', rw', q⟩) hs
def rInD (neg : Bool) : R2 := fun x y H Q => ∃ a o, y = .ref a ∧ DGet H a x o ∧ Q (.bl (if neg then !o.isSome else o.isSome)) H
theorem op_in_dict {X : Cx} (hu : X.A.units + 1 < cLine) : OpR X (compareOp .In) (rInD false) := by
  intro pins s σ H x y v u Q I rx ry h
  obtain ⟨a, o, rfl, g, q⟩ := h
  cases ry
  exact d_in hu I g rx fun s3 I3 => ⟨.bl o.isSome, H, I3, rfl, q⟩
theorem op_notin_dict {X : Cx} (hu : X.A.units + 1 < cLine) : OpR X (compareOp .NotIn) (rInD true) := by
  intro pins s σ H x y v u Q I rx ry h
  obtain ⟨a, o, rfl, g, q⟩ := h
  cases ry
  exact d_notIn hu I g rx fun s3 I3 => ⟨.bl (!o.isSome), H, I3, rfl, q⟩
end FR

namespace FL
open PySem PySem.Spec PyProof.Rows L2 FR

/-! ### operations on data -/
def dI (f : Int → Int → Int) : D → D → G → Res D
  | .int i, .int j, g => .ok (.int (f i j)) g
  | _, _, _ => .stuck
def dIC (C : Int → Int → Bool) (f : Int → Int → Int) : D → D → G → Res D
  | .int i, .int j, g => if C i j = true then .ok (.int (f i j)) g else .stuck
  | _, _, _ => .stuck
def dSub := dI (· - ·)
def cMul (i j : Int) : Bool := decide ((-(2 ^ 64) < i ∧ i < 2 ^ 64) ∨ (-(2 ^ 64) < j ∧ j < 2 ^ 64))
def dMul := dIC cMul (· * ·)
def dMod := dIC (fun _ j => decide (0 < j)) (· % ·)
def dDiv := dIC (fun _ j => decide (0 < j ∧ j < 1073741824)) (· / ·)
def dPow := dIC (fun i j => decide (0 ≤ j ∧ j ≤ 1000000 ∧ i.natAbs < 2 ^ 64)) (fun i j => i ^ j.toNat)
def dAdd : D → D → G → Res D
  | .int i, .int j, g => .ok (.int (i + j)) g
  | .str a, .str b, g => if a.length + b.length ≤ sizeLine then .ok (.str (a ++ b)) g else .stuck
  | .tup xs, .tup ys, g => if xs.length + ys.length ≤ sizeLine then .ok (.tup (xs ++ ys)) g else .stuck
  | .lst xs, .lst ys, g => if xs.length + ys.length ≤ sizeLine then .ok (.lst (xs ++ ys)) g else .stuck
  | _, _, _ => .stuck
/-- the items of what is a list or tuple -/
def seqD (g : G) : D → Option (List D)
  | .tup xs => some xs
  | .lst xs => some xs
  | .scr ns => some (ns.map D.int)
  | .ref n => match g[n]? with
    | some (.lst xs) => some xs
    | _ => none
  | _ => none
def lookK {α : Type} (kvs : List (Key × α)) (k : Key) : Option α := (kvs.find? fun kv => decide (kv.1 = k)).map (·.2)
def keyD : D → Option Key
  | .int i => some (.inl i)
  | .str s => some (.inr s)
  | _ => none
def dctD (g : G) : D → Option (List (Key × D))
  | .dct kvs => some kvs
  | .ref n => match g[n]? with
    | some (.dct kvs) => some kvs
    | _ => none
  | _ => none
def okO {α : Type} (o : Option α) (g : G) : Res α := match o with
  | some a => .ok a g
  | none => .stuck
/-- a[i] -/
def dIx (a i : D) (g : G) : Res D := match seqD g a with
  | some xs => match i with
    | .int i => okO (atI xs i) g
    | _ => .stuck
  | none => match dctD g a with
    | some kvs => match keyD i with
      | some k => okO (lookK kvs k) g
      | none => .stuck
    | none => match a, i with
      | .str z, .int i => if z.length ≤ sizeLine then okO ((atI z.cps.toList i).map fun c => D.str ⟨#[c]⟩) g else .stuck
      | _, _ => .stuck
/-- xs[lo:hi] -/
def cutD (xs : List D) (lo hi : Option Int) : List D := (xs.drop (HT.sIx xs.length 0 lo)).take (HT.sIx xs.length xs.length hi - HT.sIx xs.length 0 lo)
def dSl (a : D) (lo hi : Option Int) (g : G) : Res D := match a with
  | .tup xs => .ok (.tup (cutD xs lo hi)) g
  | .lst xs => .ok (.lst (cutD xs lo hi)) g
  | .scr ns => .ok (.lst (cutD (ns.map D.int) lo hi)) g
  | .str z => if z.length ≤ sizeLine then .ok (.str (cutS z lo hi)) g else .stuck
  | _ => .stuck
/-- ==, of flat things -/
def eqF : D → D → Option Bool
  | .non, .non => some true | .non, .int _ => some false | .int _, .non => some false | .non, .bl _ => some false | .bl _, .non => some false | .non, .str _ => some false | .str _, .non => some false
  | .int i, .int j => some (decide (i = j)) | .bl a, .bl b => some (decide (a = b)) | .str a, .str b => some (decide (a = b))
  | .int _, .str _ => some false | .str _, .int _ => some false | .bl _, .str _ => some false | .str _, .bl _ => some false
  | .int i, .bl b => some (i == if b then 1 else 0) | .bl b, .int i => some ((if b then 1 else 0) == i)
  | _, _ => none
def flatD : D → Bool
  | .non => true | .bl _ => true | .int _ => true | .str _ => true | _ => false
mutual
def toPy : D → Option PyData
  | .non => some .none
  | .bl b => some (.bool b)
  | .int i => some (.int i)
  | .str s => some (.str s)
  | .tup xs => (toPyL xs).map .tuple
  | .lst xs => (toPyL xs).map .list
  | _ => none
def toPyL : List D → Option (List PyData)
  | [] => some []
  | d :: ds => match toPy d, toPyL ds with
    | some p, some ps => some (p :: ps)
    | _, _ => none
end
/-- cells are read -/
def derefN (g : G) (n : Nat) : D := match g[n]? with
  | some (.lst xs) => .lst xs
  | _ => .ref n
def deref (g : G) (d : D) : D := match d with
  | .ref n => derefN g n
  | d => d
def eqD (a b : D) : Option Bool := match eqF a b with
  | some r => some r
  | none => match toPy a, toPy b with
    | some p, some q => if SeqAt.shaped p = true ∧ SeqAt.shaped q = true then some (PyData.eqv p q) else none
    | _, _ => none
def dEq (neg : Bool) (a b : D) (g : G) : Res D := match eqD (deref g a) (deref g b) with
  | some r => .ok (.bl (if neg then !r else r)) g
  | none => .stuck
def dCmp (p : Int → Int → Bool) : D → D → G → Res D
  | .int i, .int j, g => .ok (.bl (p i j)) g
  | _, _, _ => .stuck
def dLt := dCmp fun i j => decide (i < j)
def dLe := dCmp fun i j => decide (i ≤ j)
def dGt := dCmp fun i j => decide (j < i)
def dGe := dCmp fun i j => decide (j ≤ i)
def isN : D → Bool
  | .non => true
  | _ => false
def dIsN (neg : Bool) (a : D) (g : G) : Res D := .ok (.bl (if neg then !isN a else isN a)) g
/-- x in xs, of flat things -/
def inF (x : D) (xs : List D) : Bool := xs.any fun y => (eqF y x).getD false
def dIn (neg : Bool) (x a : D) (g : G) : Res D := match seqD g a with
  | some xs => if flatD x = true ∧ xs.all flatD = true then .ok (.bl (if neg then !inF x xs else inF x xs)) g else .stuck
  | none => match dctD g a with
    | some kvs => match keyD x with
      | some k => .ok (.bl (if neg then !(lookK kvs k).isSome else (lookK kvs k).isSome)) g
      | none => .stuck
    | none => match x, a with
      | .str i, .str j => .ok (.bl (if neg then !(!(Builtin.Str.occurrences j i 0 j.length 1).isEmpty) else !(Builtin.Str.occurrences j i 0 j.length 1).isEmpty)) g
      | _, _ => .stuck

section
variable {K : PySem.W.Frag} {cls : Str → Addr} {W : WX} {m : List Addr} {F H : Hp} {g : G} {σ : L2.St}
theorem seq_rep (w : World K cls m F g H) {v : V} {d : D} {ds : List D} (r : Rep K cls m F v d) (e : seqD g d = some ds) : ∃ p xs, v = .ref p ∧ (SqL K H p xs ∨ SqT K H p xs) ∧ RepL K cls m F xs ds := by
  cases r with
  | tup a b => cases e; exact ⟨_, _, rfl, .inr (sqT_mono w.fe a), b⟩
  | lst a b => cases e; exact ⟨_, _, rfl, .inl (.inl (.inl (w.fe _ _ a))), b⟩
  | scr a =>
    rename_i p ns
    cases e
    refine ⟨_, _, rfl, .inl (sqL_mono w.fe a), ?_⟩
    have : ∀ l : List Int, RepL K cls m F (l.map V.int) (l.map D.int) := fun l => by
      induction l with
      | nil => exact .nil
      | cons x l ih => exact .cons (.int x) ih
    exact this ns
  | ref a =>
    rename_i p n
    unfold seqD at e
    cases q : g[n]? with
    | none => simp only [q] at e; cases e
    | some c =>
      cases c with
      | lst xs =>
        simp only [q] at e
        cases e
        obtain ⟨ys, h1, h2⟩ := w.at_ n _ p q a
        exact ⟨p, ys, rfl, .inl (.inl (.inl h1)), h2⟩
      | _ => simp only [q] at e; cases e
  | _ => cases e
theorem dct_rep (w : World K cls m F g H) {v : V} {d : D} {ds : List (Key × D)} (r : Rep K cls m F v d) (e : dctD g d = some ds) : ∃ p xs, v = .ref p ∧ H p = some (.dK xs) ∧ RepK K cls m F xs ds := by
  cases r with
  | dct a b => cases e; exact ⟨_, _, rfl, w.fe _ _ a, b⟩
  | ref a =>
    rename_i p n
    unfold dctD at e
    cases q : g[n]? with
    | none => simp only [q] at e; cases e
    | some c =>
      cases c with
      | dct xs =>
        simp only [q] at e
        cases e
        obtain ⟨ys, h1, h2⟩ := w.at_ n _ p q a
        exact ⟨p, ys, rfl, h1, h2⟩
      | _ => simp only [q] at e; cases e
  | _ => cases e
theorem key_rep {v : V} {d : D} {k : Key} (r : Rep K cls m F v d) (e : keyD d = some k) : v = kV k := by
  cases r with
  | int i => cases e; rfl
  | str s => cases e; rfl
  | _ => cases e
theorem lookK_rep {xs : List (Key × V)} : ∀ {ds : List (Key × D)}, RepK K cls m F xs ds → ∀ k : Key, (∀ d, lookK ds k = some d → ∃ v, valV xs k = some v ∧ Rep K cls m F v d) ∧ (lookK ds k = none → valV xs k = none)
  | [], h, k => by cases h; exact ⟨fun d e => (by cases e), fun _ => rfl⟩
  | (k', d') :: ds, h, k => by
    cases h with
    | cons a b =>
      rename_i v' xs'
      obtain ⟨ih1, ih2⟩ := lookK_rep b k
      unfold lookK valV at *
      rw [List.find?_cons, List.find?_cons]
      by_cases q : k' = k
      · simp only [decide_eq_true q]
        exact ⟨fun d e => ⟨v', rfl, (by cases e; exact a)⟩, fun e => (by cases e)⟩
      · simp only [decide_eq_false q]
        exact ⟨ih1, ih2⟩
theorem okO_ok {α : Type} {o : Option α} {β : Type} {rep : List Addr → Hp → β → α → Prop} {Q : β → Hp → Prop} (h : Sat K cls W σ rep ⟨m, F, g, H⟩ (okO o g) Q) : ∃ a, o = some a ∧ Sat K cls W σ rep ⟨m, F, g, H⟩ (.ok a g) Q := by
  cases o with
  | none => exact h.elim
  | some a => exact ⟨a, rfl, h⟩
theorem ops_I (f : Int → Int → Int) : OpS K cls W (rI0 fun i j => .int (f i j)) (dI f) := fun m F g H σ Q x y a b w ra rb h => by
  cases a <;> cases b <;> first | exact h.elim | skip
  cases ra; cases rb
  exact ⟨_, _, rfl, rfl, h.here w (.int _)⟩
theorem ops_IC {C : Int → Int → Bool} {C' : Int → Int → Prop} {f : Int → Int → Int} (hc : ∀ i j, C i j = true → C' i j) : OpS K cls W (rI C' fun i j => .int (f i j)) (dIC C f) := fun m F g H σ Q x y a b w ra rb h => by
  cases a <;> cases b <;> first | exact h.elim | skip
  cases ra; cases rb
  simp only [dIC] at h
  split at h
  · rename_i e
    exact ⟨_, _, rfl, rfl, hc _ _ e, h.here w (.int _)⟩
  · exact h.elim
theorem ops_cmp (p : Int → Int → Bool) : OpS K cls W (rI0 fun i j => .bl (p i j)) (dCmp p) := fun m F g H σ Q x y a b w ra rb h => by
  cases a <;> cases b <;> first | exact h.elim | skip
  cases ra; cases rb
  exact ⟨_, _, rfl, rfl, h.here w (.bl _)⟩
def rAddS : R2 := fun x y H Q => ∃ i j, x = .str i ∧ y = .str j ∧ i.length + j.length ≤ sizeLine ∧ Q (.str (i ++ j)) H
def rAddAll (K : PySem.W.Frag) : R2 := fun x y H Q => rI0 (fun i j => .int (i + j)) x y H Q ∨ rAddS x y H Q ∨ rCatT K x y H Q ∨ rCatT0 K x y H Q ∨ rCat x y H Q
theorem op_addAll {X : Cx} : OpR X (binaryOp .Add) (rAddAll X.K) := opr_or op_add (opr_or op_add_str (opr_or op_catT (opr_or op_catT0 op_cat)))
theorem ops_add : OpS K cls W (rAddAll K) dAdd := fun m F g H σ Q x y a b w ra rb h => by
  cases a <;> cases b <;> first | exact h.elim | skip
  · cases ra; cases rb
    exact .inl ⟨_, _, rfl, rfl, h.here w (.int _)⟩
  · cases ra; cases rb
    simp only [dAdd] at h
    split at h
    · rename_i e
      exact .inr (.inl ⟨_, _, rfl, rfl, e, h.here w (.str _)⟩)
    · exact h.elim
  · simp only [dAdd] at h
    split at h
    · rename_i xs ys e
      cases ra with
      | tup a1 a2 =>
        cases rb with
        | tup b1 b2 =>
          rename_i p us q vs
          cases xs with
          | nil =>
            cases a2
            exact .inr (.inr (.inr (.inl ⟨_, _, _, rfl, rfl, sqT_mono w.fe a1, sqT_mono w.fe b1, h.here w (.tup b1 b2)⟩)))
          | cons x0 xs =>
            refine .inr (.inr (.inl ⟨_, _, _, _, rfl, rfl, sqT_mono w.fe a1, sqT_mono w.fe b1, ?_, ?_, ?_, ?_⟩))
            · intro z; rw [z] at a2; cases a2
            · rw [a2.length, b2.length]; exact e
            · intro z
              subst z
              cases b2
              rw [List.append_nil] at h
              exact h.here w (.tup a1 a2)
            · intro _ r hr
              exact h.new w hr (.tup sqT_new (RepL.mono (grow_new (w.hF hr)) _ _ (a2.append b2)))
    · exact h.elim
  · simp only [dAdd] at h
    split at h
    · rename_i xs ys e
      cases ra with
      | lst a1 a2 =>
        cases rb with
        | lst b1 b2 =>
          refine .inr (.inr (.inr (.inr ⟨_, _, _, _, rfl, rfl, w.fe _ _ a1, w.fe _ _ b1, ?_, ?_⟩)))
          · rw [a2.length, b2.length]; exact e
          · intro r hr
            exact h.new w hr (.lst upd_same (RepL.mono (grow_new (w.hF hr)) _ _ (a2.append b2)))
    · exact h.elim
theorem atI_rep {xs : List V} {ds : List D} {i : Int} {d : D} (r : RepL K cls m F xs ds) (e : atI ds i = some d) : ∃ v, atI xs i = some v ∧ Rep K cls m F v d := by
  unfold atI at *
  rw [r.length]
  cases q : ixN ds.length i with
  | none => rw [q] at e; cases e
  | some j =>
    rw [q] at e
    obtain ⟨v, h1, h2⟩ := r.get (show ds[j]? = some d from e)
    exact ⟨v, h1, h2⟩
def rIxAll (K : PySem.W.Frag) : R2 := fun x y H Q => rIx K x y H Q ∨ rIxD x y H Q
theorem ix_all {X : Cx} (hu : X.A.units + 1 < cLine) : IxR X (rIxAll X.K) := ix_seq.or (ix_dict hu)
theorem ops_ix : OpS K cls W (rIxAll K) dIx := fun m F g H σ Q x y a b w ra rb h => by
  unfold dIx at h
  cases e : seqD g a with
  | some xs =>
    simp only [e] at h
    cases b <;> first | exact h.elim | skip
    cases rb
    obtain ⟨d, e1, h⟩ := okO_ok h
    obtain ⟨p, us, rfl, hs, rl⟩ := seq_rep w ra e
    obtain ⟨v, e2, rv⟩ := atI_rep rl e1
    rcases hs with hs | hs
    · exact .inl (.inl ⟨p, us, _, v, rfl, rfl, hs, e2, h.here w rv⟩)
    · exact .inl (.inr (.inl ⟨p, us, _, v, rfl, rfl, hs, e2, h.here w rv⟩))
  | none =>
    simp only [e] at h
    cases e1 : dctD g a with
    | some kvs =>
      simp only [e1] at h
      cases e2 : keyD b with
      | none => simp only [e2] at h; exact h.elim
      | some k =>
        simp only [e2] at h
        obtain ⟨d, e3, h⟩ := okO_ok h
        obtain ⟨p, us, rfl, hs, rl⟩ := dct_rep w ra e1
        obtain rfl := key_rep rb e2
        obtain ⟨v, e4, rv⟩ := (lookK_rep rl k).1 d e3
        refine .inr ⟨p, v, rfl, ?_, h.here w rv⟩
        rw [← e4]
        exact DGet.k hs
    | none =>
      simp only [e1] at h
      cases a <;> first | exact h.elim | skip
      cases b <;> first | exact h.elim | skip
      cases ra; cases rb
      simp only at h
      split at h
      · rename_i hl
        obtain ⟨d, e3, h⟩ := okO_ok h
        obtain ⟨c, e4, rfl⟩ := Option.map_eq_some_iff.mp e3
        exact .inl (.inr (.inr ⟨_, _, c, rfl, rfl, hl, e4, h.here w (.str _)⟩))
      · exact h.elim
end
end FL

namespace FL
open PySem PySem.Spec PyProof.Rows L2 FR

/-! ### built-ins on data -/
def dLen : List D → G → Res D
  | [d], g => match seqD g d with
    | some xs => .ok (.int xs.length) g
    | none => match dctD g d with
      | some kvs => .ok (.int kvs.length) g
      | none => match d with
        | .str z => if z.length ≤ sizeLine then .ok (.int z.length) g else .stuck
        | _ => .stuck
  | _, _ => .stuck
def dAbs : List D → G → Res D
  | [.int i], g => .ok (.int (if i < 0 then -i else i)) g
  | _, _ => .stuck
def dIntC : List D → G → Res D
  | [.int i], g => .ok (.int i) g
  | [.bl b], g => .ok (.int (if b then 1 else 0)) g
  | [.str a], g => match PySem.intText? a with
    | some n => if a.length ≤ 640 then .ok (.int n) g else .stuck
    | none => .stuck
  | _, _ => .stuck
def dBoolC : List D → G → Res D
  | [.int i], g => .ok (.bl (i != 0)) g
  | [.bl b], g => .ok (.bl b) g
  | _, _ => .stuck
def dStrC : List D → G → Res D
  | [.int i], g => if i.natAbs.log2 < 1920 then .ok (.str (toString i)) g else .stuck
  | _, _ => .stuck
def dListC : List D → G → Res D
  | [d], g => match seqD g d with
    | some xs => .ok (.lst xs) g
    | none => .stuck
  | _, _ => .stuck
def dTupC : List D → G → Res D
  | [d], g => match seqD g d with
    | some xs => .ok (.tup xs) g
    | none => .stuck
  | _, _ => .stuck
def bools : List D → Option (List Bool)
  | [] => some []
  | .bl b :: ds => (bools ds).map (b :: ·)
  | _ :: _ => none
def dAll : List D → G → Res D
  | [.lst ds], g => match bools ds with
    | some bs => .ok (.bl (bs.all id)) g
    | none => .stuck
  | _, _ => .stuck
def dAny : List D → G → Res D
  | [.lst ds], g => match bools ds with
    | some bs => .ok (.bl (bs.any id)) g
    | none => .stuck
  | _, _ => .stuck
def dMax2 : List D → G → Res D
  | [.int i, .int j], g => .ok (.int (if j > i then j else i)) g
  | _, _ => .stuck
def dMin2 : List D → G → Res D
  | [.int i, .int j], g => .ok (.int (if j < i then j else i)) g
  | _, _ => .stuck
/-- the built-in type of a value -/
def tyD (g : G) : D → Option String
  | .non => some "NoneType"
  | .bl _ => some "bool"
  | .int _ => some "int"
  | .str _ => some "str"
  | .tup _ => some "tuple"
  | .lst _ => some "list"
  | .dct _ => some "dict"
  | .ref n => match g[n]? with
    | some (.lst _) => some "list"
    | some (.dct _) => some "dict"
    | _ => none
  | _ => none
def subT (a b : String) : Bool := a == b || (a == "bool" && b == "int")
/-- isinstance with built-in types -/
def dIsi (ns : List String) (d : D) (g : G) : Res D := match tyD g d with
  | some a => .ok (.bl (ns.any fun b => subT a b)) g
  | none => .stuck

section
variable {K : PySem.W.Frag} {cls : Str → Addr} {W : WX} {m : List Addr} {F H : Hp} {g : G} {σ : L2.St}
mutual
theorem toPy_rep (w : World K cls m F g H) : ∀ (d : D) (v : V) (p : PyData), Rep K cls m F v d → toPy d = some p → Dp K H v p
  | .non, _, _, r, e => by cases r; simp only [toPy] at e; cases e; exact .non
  | .bl b, _, _, r, e => by cases r; simp only [toPy] at e; cases e; exact .bl b
  | .int b, _, _, r, e => by cases r; simp only [toPy] at e; cases e; exact .int b
  | .str b, _, _, r, e => by cases r; simp only [toPy] at e; cases e; exact .str b
  | .tup ds, _, _, r, e => by
    cases r with
    | tup a b =>
      simp only [toPy] at e
      obtain ⟨ps, e1, rfl⟩ := Option.map_eq_some_iff.mp e
      exact .tup (sqT_mono w.fe a) (toPyL_rep w ds _ ps b e1)
  | .lst ds, _, _, r, e => by
    cases r with
    | lst a b =>
      simp only [toPy] at e
      obtain ⟨ps, e1, rfl⟩ := Option.map_eq_some_iff.mp e
      exact .lst (SqL.of (w.fe _ _ a)) (toPyL_rep w ds _ ps b e1)
  | .scr _, _, _, _, e => by simp only [toPy] at e; cases e
  | .dct _, _, _, _, e => by simp only [toPy] at e; cases e
  | .ins _ _, _, _, _, e => by simp only [toPy] at e; cases e
  | .ref _, _, _, _, e => by simp only [toPy] at e; cases e
theorem toPyL_rep (w : World K cls m F g H) : ∀ (ds : List D) (vs : List V) (ps : List PyData), RepL K cls m F vs ds → toPyL ds = some ps → DpAll K H vs ps
  | [], _, _, r, e => by cases r; simp only [toPyL] at e; cases e; exact .nil
  | d :: ds, _, ps, r, e => by
    cases r with
    | cons a b =>
      simp only [toPyL] at e
      cases e1 : toPy d with
      | none => simp only [e1] at e; cases e
      | some p =>
        cases e2 : toPyL ds with
        | none => simp only [e1, e2] at e; cases e
        | some qs =>
          simp only [e1, e2] at e
          cases e
          exact .cons (toPy_rep w d _ p a e1) (toPyL_rep w ds _ qs b e2)
end
def rEqAll (K : PySem.W.Frag) : R2 := fun x y H Q => rEq x y H Q ∨ rEqD K x y H Q
def rNeAll (K : PySem.W.Frag) : R2 := fun x y H Q => rNe x y H Q ∨ rNeD K x y H Q
theorem op_eqAll {X : Cx} (hu : X.A.units + 64 < cLine) : OpR X (compareOp .Eq) (rEqAll X.K) := opr_or op_eq (op_eqD hu)
theorem op_neAll {X : Cx} (hu : X.A.units + 64 < cLine) : OpR X (compareOp .NotEq) (rNeAll X.K) := opr_or op_ne (op_neD hu)
/-- what == needs of two values -/
def EqV (K : PySem.W.Frag) (H : Hp) (x y : V) (r : Bool) : Prop := (scal x y = true ∧ decide (x = y) = r) ∨ ∃ d e, Dp K H x d ∧ Dp K H y e ∧ SeqAt.shaped d = true ∧ SeqAt.shaped e = true ∧ PyData.eqv d e = r
theorem eqF_rep {x y : V} {a b : D} {r : Bool} (ra : Rep K cls m F x a) (rb : Rep K cls m F y b) (e : eqF a b = some r) : EqV K H x y r := by
  cases a <;> cases b <;> first | (cases e; done) | skip
  all_goals (cases ra; cases rb; simp only [eqF, Option.some.injEq] at e; subst e)
  all_goals first
    | (refine .inl ⟨rfl, ?_⟩; first | rfl | simp)
    | exact .inr ⟨_, _, .int _, .bl _, rfl, rfl, rfl⟩
    | exact .inr ⟨_, _, .bl _, .int _, rfl, rfl, rfl⟩
theorem deref_rep (w : World K cls m F g H) {v : V} {d : D} (r : Rep K cls m F v d) : Rep K cls m F v (deref g d) ∨ ∃ (p : Addr) (xs : List V) (ds : List D), v = .ref p ∧ deref g d = .lst ds ∧ H p = some (.lst xs) ∧ RepL K cls m F xs ds := by
  cases r with
  | ref a =>
    rename_i p n
    have id_ : (∀ xs, g[n]? ≠ some (Cell.lst xs)) → deref g (.ref n) = .ref n := fun hn => by
      show derefN g n = _
      unfold derefN
      split
      · rename_i xs e
        exact absurd e (hn xs)
      · rfl
    cases q : g[n]? with
    | none => exact .inl (by rw [id_ (fun xs z => by rw [q] at z; cases z)]; exact .ref a)
    | some c =>
      cases c with
      | lst xs =>
        obtain ⟨ys, h1, h2⟩ := w.at_ n _ p q a
        exact .inr ⟨p, ys, xs, rfl, (by simp only [deref, derefN, q]), h1, h2⟩
      | _ => exact .inl (by rw [id_ (fun xs z => by rw [q] at z; cases z)]; exact .ref a)
  | tup a b => exact .inl (.tup a b)
  | lst a b => exact .inl (.lst a b)
  | scr a => exact .inl (.scr a)
  | dct a b => exact .inl (.dct a b)
  | ins a b => exact .inl (.ins a b)
  | non => exact .inl .non
  | bl b => exact .inl (.bl b)
  | int i => exact .inl (.int i)
  | str s => exact .inl (.str s)
theorem toPy_deref (w : World K cls m F g H) {v : V} {d : D} {p : PyData} (r : Rep K cls m F v d) (e : toPy (deref g d) = some p) : Dp K H v p := by
  rcases deref_rep w r with h | ⟨a, xs, ds, rfl, e2, h1, h2⟩
  · exact toPy_rep w _ _ _ h e
  · rw [e2] at e
    simp only [toPy] at e
    obtain ⟨ps, e1, rfl⟩ := Option.map_eq_some_iff.mp e
    exact .lst (SqL.of h1) (toPyL_rep w ds _ ps h2 e1)
theorem eqD_rep (w : World K cls m F g H) {x y : V} {a b : D} {r : Bool} (ra : Rep K cls m F x a) (rb : Rep K cls m F y b) (e : eqD (deref g a) (deref g b) = some r) : EqV K H x y r := by
  unfold eqD at e
  cases q : eqF (deref g a) (deref g b) with
  | some z =>
    simp only [q] at e
    cases e
    have ha : Rep K cls m F x (deref g a) := by
      rcases deref_rep w ra with h | ⟨p, xs, ds, rfl, e2, h1, h2⟩
      · exact h
      · rw [e2] at q; unfold eqF at q; split at q <;> first | (cases q; done) | (rename_i hh _; cases hh)
    have hb : Rep K cls m F y (deref g b) := by
      rcases deref_rep w rb with h | ⟨p, xs, ds, rfl, e2, h1, h2⟩
      · exact h
      · rw [e2] at q; unfold eqF at q; split at q <;> first | (cases q; done) | (rename_i _ hh; cases hh)
    exact eqF_rep ha hb q
  | none =>
    simp only [q] at e
    cases e1 : toPy (deref g a) with
    | none => simp only [e1] at e; cases e
    | some p1 =>
      cases e2 : toPy (deref g b) with
      | none => simp only [e1, e2] at e; cases e
      | some p2 =>
        simp only [e1, e2] at e
        split at e
        · rename_i hs
          cases e
          exact .inr ⟨p1, p2, toPy_deref w ra e1, toPy_deref w rb e2, hs.1, hs.2, rfl⟩
        · cases e
theorem ops_eq : OpS K cls W (rEqAll K) (dEq false) := fun m F g H σ Q x y a b w ra rb h => by
  unfold dEq at h
  cases e : eqD (deref g a) (deref g b) with
  | none => simp only [e] at h; exact h.elim
  | some r =>
    simp only [e] at h
    have hq : Q (.bl r) H := h.here w (.bl r)
    rcases eqD_rep w ra rb e with ⟨h1, h2⟩ | ⟨p, q, h1, h2, h3, h4, h5⟩
    · exact .inl ⟨h1, by rw [h2]; exact hq⟩
    · exact .inr ⟨p, q, h1, h2, h3, h4, by rw [h5]; exact hq⟩
theorem ops_ne : OpS K cls W (rNeAll K) (dEq true) := fun m F g H σ Q x y a b w ra rb h => by
  unfold dEq at h
  cases e : eqD (deref g a) (deref g b) with
  | none => simp only [e] at h; exact h.elim
  | some r =>
    simp only [e] at h
    have hq : Q (.bl (!r)) H := h.here w (.bl (!r))
    rcases eqD_rep w ra rb e with ⟨h1, h2⟩ | ⟨p, q, h1, h2, h3, h4, h5⟩
    · exact .inl ⟨h1, by rw [h2]; exact hq⟩
    · exact .inr ⟨p, q, h1, h2, h3, h4, by rw [h5]; exact hq⟩
theorem isN_rep {x : V} {a : D} (r : Rep K cls m F x a) : decide (x = .non) = isN a := by
  cases r <;> rfl
def rIsN (neg : Bool) : R2 := fun x y H Q => y = .non ∧ Q (.bl (if neg then !decide (x = .non) else decide (x = .non))) H
theorem op_isN' {X : Cx} : OpR X (compareOp .Is) (rIsN false) := op_isN
theorem op_notN' {X : Cx} : OpR X (compareOp .IsNot) (rIsN true) := op_notN
/-- x is None: by its one operand -/
theorem se_isN {neg : Bool} {ta : TE} {fa : Env → G → Res D} (ha : SE K cls W ta fa) : SE K cls W (tOp (rIsN neg) ta (tC .non)) (f1 (dIsN neg) fa) := fun m F g H env os σ Q rl h =>
  ha m F g H env os σ _ rl (h.bind fun a g1 x m1 F1 H1 s1 w1 r1 h1 => ⟨rfl, by
    rw [isN_rep r1]
    exact h1.here w1 (.bl _)⟩)
theorem flat_rep {x : V} {a : D} (r : Rep K cls m F x a) (h : flatD a = true) : flatV x = true := by
  cases r <;> first | rfl | cases h
theorem flat_repL : ∀ {xs : List V} {as : List D}, RepL K cls m F xs as → as.all flatD = true → xs.all flatV = true
  | _, [], r, _ => by cases r; rfl
  | _, a :: as, r, h => by
    cases r with
    | cons r1 r2 =>
      rw [List.all_cons, Bool.and_eq_true] at h ⊢
      exact ⟨flat_rep r1 h.1, flat_repL r2 h.2⟩
theorem eqV_rep {x y : V} {a b : D} (ra : Rep K cls m F x a) (rb : Rep K cls m F y b) (ha : flatD a = true) (hb : flatD b = true) : eqV y x = (eqF b a).getD false := by
  cases ra <;> first | (cases ha; done) | (cases rb <;> first | (cases hb; done) | skip)
  all_goals first
    | rfl
    | (show _ = (some _).getD false; rw [Option.getD_some]; first | exact Bool.beq_eq_decide_eq _ _ | rfl)
theorem inV_rep {x : V} {a : D} (ra : Rep K cls m F x a) (ha : flatD a = true) : ∀ {xs : List V} {as : List D}, RepL K cls m F xs as → as.all flatD = true → inV x xs = inF a as
  | _, [], r, _ => by cases r; rfl
  | _, b :: as, r, h => by
    cases r with
    | cons r1 r2 =>
      rw [List.all_cons, Bool.and_eq_true] at h
      have ih := inV_rep ra ha r2 h.2
      unfold inV inF at *
      rw [List.any_cons, List.any_cons, ih, eqV_rep ra r1 ha h.1]
def rInS (neg : Bool) : R2 := fun x y H Q => ∃ i j, x = .str i ∧ y = .str j ∧ Q (.bl (if neg then !(!(Builtin.Str.occurrences j i 0 j.length 1).isEmpty) else !(Builtin.Str.occurrences j i 0 j.length 1).isEmpty)) H
def rInAll (K : PySem.W.Frag) (neg : Bool) : R2 := fun x y H Q => rIn K neg x y H Q ∨ rInD neg x y H Q ∨ rInS neg x y H Q
theorem op_inAll {X : Cx} (hu : X.A.units + 1 < cLine) : OpR X (compareOp .In) (rInAll X.K false) := opr_or op_in_seq (opr_or (op_in_dict hu) op_in_str)
theorem op_notinAll {X : Cx} (hu : X.A.units + 1 < cLine) : OpR X (compareOp .NotIn) (rInAll X.K true) := opr_or op_notIn_seq (opr_or (op_notin_dict hu) op_notIn_str)
theorem ops_in {neg : Bool} : OpS K cls W (rInAll K neg) (dIn neg) := fun m F g H σ Q x y a b w ra rb h => by
  unfold dIn at h
  cases e : seqD g b with
  | some xs =>
    simp only [e] at h
    split at h
    · rename_i hf
      obtain ⟨p, us, rfl, hs, rl⟩ := seq_rep w rb e
      refine .inl ⟨p, us, rfl, hs, flat_rep ra hf.1, flat_repL rl hf.2, ?_⟩
      rw [inV_rep ra hf.1 rl hf.2]
      exact h.here w (.bl _)
    · exact h.elim
  | none =>
    simp only [e] at h
    cases e1 : dctD g b with
    | some kvs =>
      simp only [e1] at h
      cases e2 : keyD a with
      | none => simp only [e2] at h; exact h.elim
      | some k =>
        simp only [e2] at h
        obtain ⟨p, us, rfl, hs, rl⟩ := dct_rep w rb e1
        obtain rfl := key_rep ra e2
        refine .inr (.inl ⟨p, _, rfl, DGet.k hs, ?_⟩)
        have he : (valV us k).isSome = (lookK kvs k).isSome := by
          obtain ⟨l1, l2⟩ := lookK_rep rl k
          cases q : lookK kvs k with
          | none => rw [l2 q]; rfl
          | some d =>
            obtain ⟨v, h1, _⟩ := l1 d q
            rw [h1]; rfl
        rw [he]
        exact h.here w (.bl _)
    | none =>
      simp only [e1] at h
      cases a <;> cases b <;> first | exact h.elim | skip
      cases ra; cases rb
      exact .inr (.inr ⟨_, _, rfl, rfl, h.here w (.bl _)⟩)
/-! calls of built-ins -/
theorem repL1 {xs : List V} {a : D} (r : RepL K cls m F xs [a]) : ∃ x, xs = [x] ∧ Rep K cls m F x a := by
  cases r with
  | cons r1 r2 => cases r2; exact ⟨_, rfl, r1⟩
theorem repL2 {xs : List V} {a b : D} (r : RepL K cls m F xs [a, b]) : ∃ x y, xs = [x, y] ∧ Rep K cls m F x a ∧ Rep K cls m F y b := by
  cases r with
  | cons r1 r2 =>
    obtain ⟨y, rfl, r3⟩ := repL1 r2
    exact ⟨_, _, rfl, r1, r3⟩
def rLenAll (K : PySem.W.Frag) : List V → Hp → VK → Prop := fun xs H Q => (∃ x n, xs = [x] ∧ LenV K x H n ∧ Q (.int n) H) ∨ ∃ a kvs, xs = [V.ref a] ∧ H a = some (.dK kvs) ∧ Q (.int kvs.length) H
theorem call_lenAll {X : Cx} : CallR X (.builtin "len") (rLenAll X.K) := callr_or call_len call_lenD
theorem repK_length : ∀ {xs : List (Key × V)} {ds : List (Key × D)}, RepK K cls m F xs ds → xs.length = ds.length
  | _, [], r => by cases r; rfl
  | _, d :: ds, r => by
    cases r with
    | cons a b => rw [List.length_cons, List.length_cons, repK_length b]
theorem cs_len : CallS K cls W (rLenAll K) dLen := fun m F g H σ Q xs as w r h => by
  match as, r, h with
  | [d], r, h =>
    obtain ⟨x, rfl, r0⟩ := repL1 r
    simp only [dLen] at h
    cases e : seqD g d with
    | some ds =>
      simp only [e] at h
      obtain ⟨p, us, rfl, hs, rl⟩ := seq_rep w r0 e
      refine .inl ⟨_, us.length, rfl, ?_, by rw [rl.length]; exact h.here w (.int _)⟩
      rcases hs with hs | hs
      · exact .inl ⟨us, hs, rfl⟩
      · exact .inr ⟨us, hs, rfl⟩
    | none =>
      simp only [e] at h
      cases e1 : dctD g d with
      | some kvs =>
        simp only [e1] at h
        obtain ⟨p, us, rfl, hs, rl⟩ := dct_rep w r0 e1
        exact .inr ⟨p, us, rfl, hs, by rw [repK_length rl]; exact h.here w (.int _)⟩
      | none =>
        simp only [e1] at h
        cases d <;> first | exact h.elim | skip
        cases r0
        simp only at h
        split at h
        · rename_i hl
          exact .inl ⟨_, _, rfl, ⟨hl, rfl⟩, h.here w (.int _)⟩
        · exact h.elim
  | [], _, h => exact h.elim
  | _ :: _ :: _, _, h => exact h.elim
theorem cs_abs : CallS K cls W (fun xs H Q => ∃ i, xs = [.int i] ∧ Q (.int (if i < 0 then -i else i)) H) dAbs := fun m F g H σ Q xs as w r h => by
  unfold dAbs at h
  split at h
  · obtain ⟨x, rfl, r0⟩ := repL1 r
    cases r0
    exact ⟨_, rfl, h.here w (.int _)⟩
  · exact h.elim
def rIntAll : List V → Hp → VK → Prop := fun xs H Q => ((∃ i, xs = [.int i] ∧ Q (.int i) H) ∨ ∃ k, xs = [.bl k] ∧ Q (.int (if k then 1 else 0)) H) ∨ ∃ a n, xs = [.str a] ∧ PySem.intText? a = some n ∧ a.length ≤ 640 ∧ Q (.int n) H
theorem call_intAll {X : Cx} : CallR X (.type "int") rIntAll := callr_or call_int1 call_int_str
theorem cs_int : CallS K cls W rIntAll dIntC := fun m F g H σ Q xs as w r h => by
  unfold dIntC at h
  split at h
  · obtain ⟨x, rfl, r0⟩ := repL1 r
    cases r0
    exact .inl (.inl ⟨_, rfl, h.here w (.int _)⟩)
  · obtain ⟨x, rfl, r0⟩ := repL1 r
    cases r0
    exact .inl (.inr ⟨_, rfl, h.here w (.int _)⟩)
  · obtain ⟨x, rfl, r0⟩ := repL1 r
    cases r0
    split at h
    · rename_i n e
      split at h
      · rename_i hl
        exact .inr ⟨_, _, rfl, e, hl, h.here w (.int _)⟩
      · exact h.elim
    · exact h.elim
  · exact h.elim
theorem cs_bool : CallS K cls W (fun xs H Q => (∃ i, xs = [.int i] ∧ Q (.bl (i != 0)) H) ∨ ∃ k, xs = [.bl k] ∧ Q (.bl k) H) dBoolC := fun m F g H σ Q xs as w r h => by
  unfold dBoolC at h
  split at h
  · obtain ⟨x, rfl, r0⟩ := repL1 r
    cases r0
    exact .inl ⟨_, rfl, h.here w (.bl _)⟩
  · obtain ⟨x, rfl, r0⟩ := repL1 r
    cases r0
    exact .inr ⟨_, rfl, h.here w (.bl _)⟩
  · exact h.elim
theorem cs_str : CallS K cls W (fun xs H Q => ∃ i, xs = [.int i] ∧ i.natAbs.log2 < 1920 ∧ Q (.str (toString i)) H) dStrC := fun m F g H σ Q xs as w r h => by
  unfold dStrC at h
  split at h
  · obtain ⟨x, rfl, r0⟩ := repL1 r
    cases r0
    split at h
    · rename_i hl
      exact ⟨_, rfl, hl, h.here w (.str _)⟩
    · exact h.elim
  · exact h.elim
theorem cs_list : CallS K cls W (fun xs H Q => ∃ p ys, xs = [.ref p] ∧ (SqL K H p ys ∨ SqT K H p ys) ∧ ∀ l, H l = none → Q (.ref l) (upd H l (.lst ys))) dListC := fun m F g H σ Q xs as w r h => by
  unfold dListC at h
  split at h
  · rename_i d
    obtain ⟨x, rfl, r0⟩ := repL1 r
    cases e : seqD g d with
    | some ds =>
      simp only [e] at h
      obtain ⟨p, us, rfl, hs, rl⟩ := seq_rep w r0 e
      exact ⟨p, us, rfl, hs, fun l hl => h.new w hl (.lst upd_same (RepL.mono (grow_new (w.hF hl)) _ _ rl))⟩
    | none => simp only [e] at h; exact h.elim
  · exact h.elim
theorem seq_rep2 (w : World K cls m F g H) {v : V} {d : D} {ds : List D} (r : Rep K cls m F v d) (e : seqD g d = some ds) : ∃ p xs, v = .ref p ∧ (SqL K H p xs ∨ (SqT K F p xs ∧ d = .tup ds)) ∧ RepL K cls m F xs ds := by
  cases r with
  | tup a b => cases e; exact ⟨_, _, rfl, .inr ⟨a, rfl⟩, b⟩
  | lst a b => cases e; exact ⟨_, _, rfl, .inl (SqL.of (w.fe _ _ a)), b⟩
  | scr a =>
    obtain ⟨p, xs, e1, e2, e3⟩ := seq_rep w (.scr a) e
    cases e1
    cases e
    refine ⟨_, _, rfl, .inl (sqL_mono w.fe a), ?_⟩
    rename_i ns
    have : ∀ l : List Int, RepL K cls m F (l.map V.int) (l.map D.int) := fun l => by
      induction l with
      | nil => exact .nil
      | cons x l ih => exact .cons (.int x) ih
    exact this ns
  | ref a =>
    rename_i p n
    unfold seqD at e
    cases q : g[n]? with
    | none => simp only [q] at e; cases e
    | some c =>
      cases c with
      | lst xs =>
        simp only [q] at e
        cases e
        obtain ⟨ys, h1, h2⟩ := w.at_ n _ p q a
        exact ⟨p, ys, rfl, .inl (SqL.of h1), h2⟩
      | _ => simp only [q] at e; cases e
  | _ => cases e
theorem cs_tuple : CallS K cls W (fun xs H Q => ∃ p ys, xs = [.ref p] ∧ ((SqL K H p ys ∧ ∀ l, H l = none → Q (.ref l) (upd H l (.tup ys))) ∨ (SqT K H p ys ∧ Q (.ref p) H))) dTupC := fun m F g H σ Q xs as w r h => by
  unfold dTupC at h
  split at h
  · rename_i d
    obtain ⟨x, rfl, r0⟩ := repL1 r
    cases e : seqD g d with
    | some ds =>
      simp only [e] at h
      obtain ⟨p, us, rfl, hs, rl⟩ := seq_rep2 w r0 e
      rcases hs with hs | ⟨hs, rfl⟩
      · exact ⟨p, us, rfl, .inl ⟨hs, fun l hl => h.new w hl (.tup sqT_new (RepL.mono (grow_new (w.hF hl)) _ _ rl))⟩⟩
      · exact ⟨p, us, rfl, .inr ⟨sqT_mono w.fe hs, h.here w (.tup hs rl)⟩⟩
    | none => simp only [e] at h; exact h.elim
  · exact h.elim
theorem bools_rep : ∀ {xs : List V} {ds : List D} {bs : List Bool}, RepL K cls m F xs ds → bools ds = some bs → xs = bs.map V.bl
  | _, [], bs, r, e => by
    cases r
    cases e
    rfl
  | _, d :: ds, bs, r, e => by
    cases r with
    | cons r1 r2 =>
      cases d <;> first | (cases e; done) | skip
      cases r1
      obtain ⟨cs, e1, rfl⟩ := Option.map_eq_some_iff.mp (show (bools ds).map _ = some bs from e)
      rw [bools_rep r2 e1]
      rfl
theorem seqL_only (w : World K cls m F g H) {d : D} (hnt : ∀ xs, d ≠ .tup xs) {v : V} {ds : List D} (r : Rep K cls m F v d) (e : seqD g d = some ds) : ∃ p xs, v = .ref p ∧ SqL K H p xs ∧ RepL K cls m F xs ds := by
  obtain ⟨p, us, h1, hs, rl⟩ := seq_rep2 w r e
  rcases hs with hs | ⟨_, h⟩
  · exact ⟨p, us, h1, hs, rl⟩
  · exact absurd h (hnt _)
/-- the built-in types, both answers -/
theorem kit_all : ∀ a ∈ (["NoneType", "bool", "int", "str", "tuple", "list", "dict"] : List String), ∀ b ∈ (["bool", "int", "str", "tuple", "list", "dict"] : List String), kitB a b = some (subT a b) := by decide +kernel
theorem cs_all : CallS K cls W (rAll K) dAll := fun m F g H σ Q xs as w r h => by
  unfold dAll at h
  split at h
  · rename_i g' ds
    obtain ⟨x, rfl, r0⟩ := repL1 r
    cases r0 with
    | lst a b =>
      cases e : bools ds with
      | none => simp only [e] at h; exact h.elim
      | some bs =>
        simp only [e] at h
        exact ⟨_, bs, rfl, SqL.of (by rw [← bools_rep b e]; exact w.fe _ _ a), h.here w (.bl _)⟩
  · exact h.elim
theorem cs_any : CallS K cls W (rAny K) dAny := fun m F g H σ Q xs as w r h => by
  unfold dAny at h
  split at h
  · rename_i g' ds
    obtain ⟨x, rfl, r0⟩ := repL1 r
    cases r0 with
    | lst a b =>
      cases e : bools ds with
      | none => simp only [e] at h; exact h.elim
      | some bs =>
        simp only [e] at h
        exact ⟨_, bs, rfl, SqL.of (by rw [← bools_rep b e]; exact w.fe _ _ a), h.here w (.bl _)⟩
  · exact h.elim
theorem cs_max2 : CallS K cls W (fun xs H Q => ∃ i j, xs = [.int i, .int j] ∧ Q (.int (if j > i then j else i)) H) dMax2 := fun m F g H σ Q xs as w r h => by
  unfold dMax2 at h
  split at h
  · obtain ⟨x, y, rfl, r1, r2⟩ := repL2 r
    cases r1; cases r2
    exact ⟨_, _, rfl, h.here w (.int _)⟩
  · exact h.elim
theorem cs_min2 : CallS K cls W (fun xs H Q => ∃ i j, xs = [.int i, .int j] ∧ Q (.int (if j < i then j else i)) H) dMin2 := fun m F g H σ Q xs as w r h => by
  unfold dMin2 at h
  split at h
  · obtain ⟨x, y, rfl, r1, r2⟩ := repL2 r
    cases r1; cases r2
    exact ⟨_, _, rfl, h.here w (.int _)⟩
  · exact h.elim
theorem tyD_rep (w : World K cls m F g H) {v : V} {d : D} {a : String} (r : Rep K cls m F v d) (e : tyD g d = some a) : TyX K H v (.type a) ∧ a ∈ (["NoneType", "bool", "int", "str", "tuple", "list", "dict"] : List String) := by
  cases r with
  | non => cases e; exact ⟨.base .non, by decide⟩
  | bl b => cases e; exact ⟨.base (.bl b), by decide⟩
  | int i => cases e; exact ⟨.base (.int i), by decide⟩
  | str s => cases e; exact ⟨.base (.str s), by decide⟩
  | tup a b =>
    cases e
    refine ⟨?_, by decide⟩
    rcases sqT_mono w.fe a with (h | ⟨o, h⟩) | ⟨o, its, n, h1, h2, _⟩
    · exact .base (.tup h)
    · exact .fTuple h
    · exact .kTuple h1 h2
  | lst a b => cases e; exact ⟨.base (.lst (w.fe _ _ a)), by decide⟩
  | dct a b => cases e; exact ⟨.base (.dK (w.fe _ _ a)), by decide⟩
  | scr a => cases e
  | ins a b => cases e
  | ref a =>
    rename_i p n
    unfold tyD at e
    cases q : g[n]? with
    | none => simp only [q] at e; cases e
    | some c =>
      cases c with
      | lst xs =>
        simp only [q] at e
        cases e
        obtain ⟨ys, h1, h2⟩ := w.at_ n _ p q a
        exact ⟨.base (.lst h1), by decide⟩
      | dct xs =>
        simp only [q] at e
        cases e
        obtain ⟨ys, h1, h2⟩ := w.at_ n _ p q a
        exact ⟨.base (.dK h1), by decide⟩
      | dead => simp only [q] at e; cases e
      | ins _ _ => simp only [q] at e; cases e
abbrev tyNames : List String := ["bool", "int", "str", "tuple", "list", "dict"]
theorem any_kit {a : String} (ha : a ∈ (["NoneType", "bool", "int", "str", "tuple", "list", "dict"] : List String)) : ∀ ns : List String, (∀ n ∈ ns, n ∈ tyNames) → PySem.W.kitAny K (.type a) (ns.map Value.type) = some (ns.any fun b => subT a b)
  | [], _ => rfl
  | n :: ns, h => by
    have h1 : PySem.W.kitOne K (.type a) (.type n) = some (subT a n) := kit_ty (kit_all a ha n (h n List.mem_cons_self))
    have ih := any_kit ha ns fun x hx => h x (List.mem_cons_of_mem _ hx)
    rw [List.map_cons, List.any_cons]
    cases e : subT a n with
    | true => exact kitAny_cons (b := true) (by rw [h1, e]) (fun z => by cases z) fun _ => rfl
    | false => exact kitAny_cons (b := false) (by rw [h1, e]) (fun _ => by simpa using ih) fun z => by cases z
/-- isinstance(x, T) -/
theorem se_isi1 {ta : TE} {fa : Env → G → Res D} {n : String} (hn : n ∈ tyNames) (ha : SE K cls W ta fa) : SE K cls W (tCB (rIsi K) (tCons ta (tCons (tC (.ty n)) tNil))) (f1 (dIsi [n]) fa) := fun m F g H env os σ Q rl h =>
  ha m F g H env os σ _ rl (h.bind fun a g1 x m1 F1 H1 s1 w1 r1 h1 => by
    unfold dIsi at h1
    cases e : tyD g1 a with
    | none => simp only [e] at h1; exact h1.elim
    | some t =>
      simp only [e] at h1
      obtain ⟨ty, hm⟩ := tyD_rep w1 r1 e
      refine ⟨x, .ty n, _, _, _, rfl, .ty n, ty, kit_ty (kit_all t hm n hn), ?_⟩
      have q := h1.here w1 (Rep.bl _)
      rw [List.any_cons, List.any_nil, Bool.or_false] at q
      exact q)
/-- the tuple of types behind isinstance -/
def tTys (ns : List String) : TA := fun _ H Q => Q (ns.map V.ty) H
theorem pa_tys_nil {X : Cx} : PA X [] (tTys []) := pa_nil
theorem pa_tys_cons {X : Cx} {x : Str} {n : String} {pos : Pos} {es : List Expr} {ns : List String} (hg : Gl X x) (hm : X.mg x = none) (hv : bootBuiltins x = some (.type n)) (hr : PA X es (tTys ns))
    (hn : x ≠ "__name__" := by decide) (hd : (x == ("__debug__" : Str)) = false := by decide) : PA X (.Name x pos :: es) (tTys (n :: ns)) :=
  pa_cons (pe_bltn (v := .ty n) hg hm hv rfl hn hd) hr
theorem classes_of : ∀ ns : List String, Paired ClsV (ns.map V.ty) (ns.map Value.type)
  | [] => .nil
  | n :: ns => .cons (.ty n) (classes_of ns)
theorem se_isiT {ta : TE} {fa : Env → G → Res D} {ns : List String} (hn : ∀ n ∈ ns, n ∈ tyNames) (hl : ns.length ≤ 16) (ha : SE K cls W ta fa) : SE K cls W (tCB (rIsiT K) (tCons ta (tCons (tTup (tTys ns)) tNil))) (f1 (dIsi ns) fa) := fun m F g H env os σ Q rl h =>
  ha m F g H env os σ _ rl (h.bind fun a g1 x m1 F1 H1 s1 w1 r1 h1 => by
    have hlen : (ns.map V.ty).length ≤ sizeLine := by
      rw [List.length_map]
      exact Nat.le_trans hl (by decide)
    refine ⟨hlen, fun p hp => ?_⟩
    unfold dIsi at h1
    cases e : tyD g1 a with
    | none => simp only [e] at h1; exact h1.elim
    | some t =>
      simp only [e] at h1
      obtain ⟨w2, s2⟩ := w1.new (o := .tup (ns.map V.ty)) hp
      have r2 := Rep.mono s2.grow _ _ r1
      obtain ⟨ty, hm⟩ := tyD_rep w2 r2 e
      exact ⟨x, p, _, _, _, _, rfl, upd_same, classes_of ns, ty, any_kit hm ns hn, h1 _ _ _ _ s2 w2 (.bl _)⟩)
end
end FL

namespace FL
open PySem PySem.Spec PyProof.Rows L2 FR

/-! ### statements -/
section
variable (K : PySem.W.Frag) (cls : Str → Addr) (W : WX)
/-- what is wanted behind a statement -/
def SatS (B : Base) (m0 : List Addr) (F0 : Hp) (D : Ends) : SRes → Prop
  | .next e g => ∀ m F H os σ, Grow m0 F0 m F → RlB K cls B m F g H e os σ → D.nx σ H
  | .brk e g => ∀ m F H os σ, Grow m0 F0 m F → RlB K cls B m F g H e os σ → D.bk σ H
  | .cnt e g => ∀ m F H os σ, Grow m0 F0 m F → RlB K cls B m F g H e os σ → D.ct σ H
  | .ret d g => ∀ v m F H, Step B m F g H → World K cls m F g H → Rep K cls m F v d → D.rt v H
  | .exc x e g => ∀ cl dx m F H os σ, Grow m0 F0 m F → RlB K cls B m F g H e os σ → ExnR K cls m F cl dx x → W cl dx σ H
  | .stuck => False
def SS (t : TS) (f : Env → G → SRes) : Prop := ∀ (B : Base) (D : Ends) m F g H env os σ, RlB K cls B m F g H env os σ → SatS K cls W B m F D (f env g) → t D σ H
/-- a target -/
def SG (ix : List Nat) (t : TG) (f : D → G → Env → Option Env) : Prop := ∀ m F g H env os σ v d (Q : L2.St → Hp → Prop), Rl K cls m F g H env os σ → Rep K cls m F v d →
  (match f d g env with
    | some env' => ∀ m' F' H' os' σ', Step ⟨m, F, g, H⟩ m' F' g H' → Rl K cls m' F' g H' env' os' σ' → (∀ j l, os' j = some l → os j = some l) → σ'.length = σ.length ∧ (∀ j, j ∉ ix → σ'[j]? = σ[j]?) → Q σ' H'
    | none => False) → t v σ H Q
def SGs (ix : List Nat) (t : TGs) (f : List D → G → Env → Option Env) : Prop := ∀ m F g H env os σ vs ds (Q : L2.St → Hp → Prop), Rl K cls m F g H env os σ → RepL K cls m F vs ds →
  (match f ds g env with
    | some env' => ∀ m' F' H' os' σ', Step ⟨m, F, g, H⟩ m' F' g H' → Rl K cls m' F' g H' env' os' σ' → (∀ j l, os' j = some l → os j = some l) → σ'.length = σ.length ∧ (∀ j, j ∉ ix → σ'[j]? = σ[j]?) → Q σ' H'
    | none => False) → t vs σ H Q
/-- what a for walks, over data that stays -/
def WalkD (J : It) (ds : List D) (m : List Addr) (F : Hp) : Prop := ∃ (Gd : Hp → Prop) (Y : Nat → Hp → V → Hp → Prop), Walk J ds.length Gd Y ∧
  (∀ m2 F2 g2 H2, Grow m F m2 F2 → World K cls m2 F2 g2 H2 → Gd H2) ∧
  ∀ i m2 F2 g2 H2 x H3, i < ds.length → Grow m F m2 F2 → World K cls m2 F2 g2 H2 → Y i H2 x H3 →
    ∃ F3, Step ⟨m2, F2, g2, H2⟩ m2 F3 g2 H3 ∧ World K cls m2 F3 g2 H3 ∧ ∃ d, ds[i]? = some d ∧ Rep K cls m2 F3 x d
def SI (t : TI) (f : Env → G → Res (List D)) : Prop := ∀ m F g H env os σ (R : It → Hp → Prop), Rl K cls m F g H env os σ → Sat K cls W σ (fun m F (J : It) ds => WalkD K cls J ds m F) ⟨m, F, g, H⟩ (f env g) R → t σ H R
end
section
variable (cls : Str → Addr) (X : Cx) (W : WX)
structure FS (st : Stmt) (t : TS) (f : Env → G → SRes) : Prop where
  p : PS X st t
  s : SS X.K cls W t f
structure FSs (sts : List Stmt) (t : TS) (f : Env → G → SRes) : Prop where
  p : PSs X sts t
  s : SS X.K cls W t f
end
def eS (env : Env) (r : Res D) (k : D → G → SRes) : SRes := match r with
  | .ok d g => k d g
  | .exc x g => .exc x env g
  | .stuck => .stuck
def fNext : Env → G → SRes := .next
def fSeq (f1 f2 : Env → G → SRes) : Env → G → SRes := fun env g => match f1 env g with
  | .next e g1 => f2 e g1
  | r => r
def fRet (fa : Env → G → Res D) : Env → G → SRes := fun env g => eS env (fa env g) .ret
def fRetN : Env → G → SRes := fun _ g => .ret .non g
def fExpr (fa : Env → G → Res D) : Env → G → SRes := fun env g => eS env (fa env g) fun _ g1 => .next env g1
def tgS (o : Option Env) (g : G) : SRes := match o with
  | some e => .next e g
  | none => .stuck
def fAsg (fa : Env → G → Res D) (ft : D → G → Env → Option Env) : Env → G → SRes := fun env g => eS env (fa env g) fun d g1 => tgS (ft d g1 env) g1
def fIfS (fc : Env → G → Res Bool) (f1 f2 : Env → G → SRes) : Env → G → SRes := fun env g => match fc env g with
  | .ok c g1 => if c = true then f1 env g1 else f2 env g1
  | .exc x g1 => .exc x env g1
  | .stuck => .stuck
/-- set the i-th slot -/
def gSet (i : Nat) : D → G → Env → Option Env := fun d _ env => match env[i]? with
  | some _ => some (env.set i (.val d))
  | none => none
def gNils : List D → G → Env → Option Env
  | [], _, env => some env
  | _ :: _, _, _ => none
def gConss (f : D → G → Env → Option Env) (r : List D → G → Env → Option Env) : List D → G → Env → Option Env
  | [], _, _ => none
  | d :: ds, g, env => (f d g env).bind (r ds g)
def gTupF (f : List D → G → Env → Option Env) (n : Nat) : D → G → Env → Option Env
  | .tup ds, g, env => if ds.length = n then f ds g env else none
  | _, _, _ => none
def loopF (ft : D → G → Env → Option Env) (fb : Env → G → SRes) : List D → Env → G → SRes
  | [], env, g => .next env g
  | d :: ds, env, g => match ft d g env with
    | none => .stuck
    | some env1 => match fb env1 g with
      | .next e g1 => loopF ft fb ds e g1
      | .cnt e g1 => loopF ft fb ds e g1
      | .brk e g1 => .next e g1
      | .ret d g1 => .ret d g1
      | .exc x e g1 => .exc x e g1
      | .stuck => .stuck
def fFor (fi : Env → G → Res (List D)) (ft : D → G → Env → Option Env) (fb : Env → G → SRes) : Env → G → SRes := fun env g => match fi env g with
  | .ok ds g1 => loopF ft fb ds env g1
  | .exc x g1 => .exc x env g1
  | .stuck => .stuck
/-- a while of at most n turns -/
def whileF (fc : Env → G → Res Bool) (fb : Env → G → SRes) : Nat → Env → G → SRes
  | 0, _, _ => .stuck
  | n + 1, env, g => match fc env g with
    | .ok true g1 => match fb env g1 with
      | .next e g2 => whileF fc fb n e g2
      | .cnt e g2 => whileF fc fb n e g2
      | .brk e g2 => .next e g2
      | .ret d g2 => .ret d g2
      | .exc x e g2 => .exc x e g2
      | .stuck => .stuck
    | .ok false g1 => .next env g1
    | .exc x g1 => .exc x env g1
    | .stuck => .stuck

section
variable {K : PySem.W.Frag} {cls : Str → Addr} {W : WX} {ta te : TE} {fa fe : Env → G → Res D} {t u : TS} {f1 f2 : Env → G → SRes} {tt : TT} {p : Env → G → Res Bool}
theorem SatS.mono {B : Base} {m0 m1 : List Addr} {F0 F1 : Hp} {D : Ends} {r : SRes} (h : SatS K cls W B m0 F0 D r) (gr : Grow m0 F0 m1 F1) : SatS K cls W B m1 F1 D r := by
  cases r with
  | next e g => exact fun m F H os σ q => h m F H os σ (gr.trans q)
  | brk e g => exact fun m F H os σ q => h m F H os σ (gr.trans q)
  | cnt e g => exact fun m F H os σ q => h m F H os σ (gr.trans q)
  | ret d g => exact h
  | exc x e g => exact fun cl dx m F H os σ q => h cl dx m F H os σ (gr.trans q)
  | stuck => exact h
/-- from an expression's result to a statement's -/
theorem sat_e {B : Base} {m : List Addr} {F : Hp} {g : G} {H : Hp} {env : Env} {os : Nat → Option Addr} {σ : L2.St} {D : Ends} {r : Res FL.D} {k : FL.D → G → SRes} {Q : VK} (rl : RlB K cls B m F g H env os σ) (h : SatS K cls W B m F D (eS env r k))
    (hq : ∀ d g1 v m1 F1 H1, Step ⟨m, F, g, H⟩ m1 F1 g1 H1 → RlB K cls B m1 F1 g1 H1 env os σ → Rep K cls m1 F1 v d → SatS K cls W B m1 F1 D (k d g1) → Q v H1) : Sat K cls W σ (Rep K cls) ⟨m, F, g, H⟩ r Q := by
  cases r with
  | ok d g1 => exact fun v m1 F1 H1 s w q => hq d g1 v m1 F1 H1 s (rl.step s w) q (SatS.mono (show SatS K cls W B m F D (k d g1) from h) s.grow)
  | exc x g1 => exact fun cl dx m1 F1 H1 s w q => h cl dx m1 F1 H1 os σ s.grow (rl.step s w) q
  | stuck => exact h
theorem ss_next : SS K cls W tNext fNext := fun B D m F g H env os σ rl h => h m F H os σ (Grow.refl _ _) rl
theorem ss_seq (h1 : SS K cls W t f1) (h2 : SS K cls W u f2) : SS K cls W (tSeq t u) (fSeq f1 f2) := fun B D m F g H env os σ rl h => by
  refine h1 B { D with nx := u D } m F g H env os σ rl ?_
  unfold fSeq at h
  cases e : f1 env g with
  | next e1 g1 =>
    simp only [e] at h
    exact fun m1 F1 H1 os1 σ1 gr r1 => h2 B D m1 F1 g1 H1 e1 os1 σ1 r1 (h.mono gr)
  | brk e1 g1 => simp only [e] at h; exact h
  | cnt e1 g1 => simp only [e] at h; exact h
  | ret d g1 => simp only [e] at h; exact h
  | exc x e1 g1 => simp only [e] at h; exact h
  | stuck => simp only [e] at h; exact h
theorem ss_ret (ha : SE K cls W ta fa) : SS K cls W (tRet ta) (fRet fa) := fun B D m F g H env os σ rl h =>
  ha m F g H env os σ _ rl.r (sat_e rl h fun d g1 v m1 F1 H1 s r1 q h1 => h1 v m1 F1 H1 r1.st r1.r.w q)
theorem ss_retN : SS K cls W tRetN fRetN := fun B D m F g H env os σ rl h => h .non m F H rl.st rl.r.w .non
theorem ss_expr (ha : SE K cls W ta fa) : SS K cls W (tDrop ta) (fExpr fa) := fun B D m F g H env os σ rl h =>
  ha m F g H env os σ _ rl.r (sat_e rl h fun d g1 v m1 F1 H1 s r1 q h1 => h1 m1 F1 H1 os σ (Grow.refl _ _) r1)
theorem ss_asg {tg : TG} {ft : FL.D → G → Env → Option Env} {ix : List Nat} (ha : SE K cls W ta fa) (hg : SG K cls ix tg ft) : SS K cls W (tAsg ta tg) (fAsg fa ft) := fun B D m F g H env os σ rl h =>
  ha m F g H env os σ _ rl.r (sat_e rl h fun d g1 v m1 F1 H1 s r1 q h1 => by
    refine hg m1 F1 g1 H1 env os σ v d _ r1.r q ?_
    cases e : ft d g1 env with
    | none => simp only [e, tgS] at h1; exact h1.elim
    | some env' =>
      simp only [e, tgS] at h1
      exact fun m2 F2 H2 os' σ' s2 r2 ho _ => h1 m2 F2 H2 os' σ' s2.grow ⟨r2, r1.st.trans s2, fun i l e => r1.own i l (ho i l e)⟩)
theorem ss_if (hc : ST K cls W tt p) (h1 : SS K cls W t f1) (h2 : SS K cls W u f2) : SS K cls W (tIfS tt t u) (fIfS p f1 f2) := fun B D m F g H env os σ rl h => by
  refine hc m F g H env os σ _ rl.r ?_
  unfold fIfS at h
  cases e : p env g with
  | ok c g1 =>
    simp only [e] at h
    intro b m1 F1 H1 s w q
    subst q
    have r1 := rl.step s w
    cases b with
    | true => exact h1 B D m1 F1 g1 H1 env os σ r1 (SatS.mono h s.grow)
    | false => exact h2 B D m1 F1 g1 H1 env os σ r1 (SatS.mono h s.grow)
  | exc x g1 =>
    simp only [e] at h
    exact fun cl dx m1 F1 H1 s w q => h cl dx m1 F1 H1 os σ s.grow (rl.step s w) q
  | stuck => simp only [e] at h; exact h.elim
/-! targets -/
theorem Rl.set {m : List Addr} {F : Hp} {g : G} {H : Hp} {env : Env} {os : Nat → Option Addr} {σ : L2.St} {v : V} {d : FL.D} {i : Nat} (r : Rl K cls m F g H env os σ) (q : Rep K cls m F v d) (hi : i < env.length) :
    Rl K cls m F g H (env.set i (.val d)) (fun j => if j = i then none else os j) (σ.set i (some v)) := by
  refine ⟨r.w, fun j s e => ?_, by simpa using r.len, fun j l e => ?_, fun a b l e1 e2 => ?_⟩
  · by_cases hj : j = i
    · subst hj
      rw [List.getElem?_set_self hi] at e
      cases e
      exact ⟨if_pos rfl, v, List.getElem?_set_self (by rw [r.len]; exact hi), q⟩
    · rw [List.getElem?_set_ne (Ne.symm hj)] at e
      have h := r.sl j s e
      have hs : (σ.set i (some v))[j]? = σ[j]? := List.getElem?_set_ne (Ne.symm hj)
      cases s with
      | un => exact (if_neg hj).trans h
      | val d' =>
        obtain ⟨o, w, h1, h2⟩ := h
        exact ⟨(if_neg hj).trans o, w, hs.trans h1, h2⟩
      | lst ds =>
        obtain ⟨l, xs, h1, h2, h3, h4⟩ := h
        exact ⟨l, xs, (if_neg hj).trans h1, hs.trans h2, h3, h4⟩
      | dct ds =>
        obtain ⟨l, xs, h1, h2, h3, h4⟩ := h
        exact ⟨l, xs, (if_neg hj).trans h1, hs.trans h2, h3, h4⟩
  · have e' : (if j = i then none else os j) = some l := e
    split at e'
    · cases e'
    · obtain ⟨h1, h2, h3, h4⟩ := r.own j l e'
      exact ⟨h1, h2, h3, by simpa using h4⟩
  · have e1' : (if a = i then none else os a) = some l := e1
    have e2' : (if b = i then none else os b) = some l := e2
    split at e1'
    · cases e1'
    · split at e2'
      · cases e2'
      · exact r.inj a b l e1' e2'
theorem sg_name (i : Nat) : SG K cls [i] (gName i) (gSet i) := fun m F g H env os σ v d Q rl q h => by
  unfold gSet at h
  cases e : env[i]? with
  | none => simp only [e] at h
  | some s =>
    simp only [e] at h
    refine h m F H _ _ (Step.refl _ _ _ _) (rl.set q (List.getElem?_eq_some_iff.mp e).1) (fun j l e => ?_) ⟨by simp, fun j hj => List.getElem?_set_ne (fun z => hj (by simp [z]))⟩
    have e' : (if j = i then none else os j) = some l := e
    split at e'
    · cases e'
    · exact e'
theorem sgs_nil : SGs K cls [] gNil gNils := fun m F g H env os σ vs ds Q rl q h => by
  cases ds with
  | nil =>
    cases q
    exact ⟨rfl, h m F H os σ (Step.refl _ _ _ _) rl (fun _ _ e => e) ⟨rfl, fun _ _ => rfl⟩⟩
  | cons d ds => exact h.elim
theorem sgs_cons {tg : TG} {tgs : TGs} {ft : FL.D → G → Env → Option Env} {fr : List FL.D → G → Env → Option Env} {ix jx : List Nat} (h1 : SG K cls ix tg ft) (h2 : SGs K cls jx tgs fr) : SGs K cls (ix ++ jx) (gCons tg tgs) (gConss ft fr) := fun m F g H env os σ vs ds Q rl q h => by
  cases ds with
  | nil => exact h.elim
  | cons d ds =>
    cases q with
    | cons q1 q2 =>
      refine ⟨_, _, rfl, h1 m F g H env os σ _ d _ rl q1 ?_⟩
      simp only [gConss] at h
      cases e : ft d g env with
      | none => simp only [e, Option.bind_none] at h
      | some env1 =>
        simp only [e, Option.bind_some] at h
        intro m1 F1 H1 os1 σ1 s1 r1 ho hc
        refine h2 m1 F1 g H1 env1 os1 σ1 _ ds _ r1 (RepL.mono s1.grow _ _ q2) ?_
        cases e2 : fr ds g env1 with
        | none => simp only [e2] at h
        | some env2 =>
          simp only [e2] at h
          exact fun m2 F2 H2 os2 σ2 s2 r2 ho2 hc2 => h m2 F2 H2 os2 σ2 (s1.trans s2) r2 (fun j l e => ho j l (ho2 j l e)) ⟨hc2.1.trans hc.1, fun j hj => (hc2.2 j fun z => hj (List.mem_append_right _ z)).trans (hc.2 j fun z => hj (List.mem_append_left _ z))⟩
theorem sg_tup {n : Nat} {tgs : TGs} {fr : List FL.D → G → Env → Option Env} {ix : List Nat} (h1 : SGs K cls ix tgs fr) : SG K cls ix (gTup K n tgs) (gTupF fr n) := fun m F g H env os σ v d Q rl q h => by
  cases d <;> first | exact h.elim | skip
  cases q with
  | tup a b =>
    simp only [gTupF] at h
    split at h
    · rename_i envx e
      split at e
      · rename_i hl
        refine ⟨_, _, rfl, sqT_mono rl.w.fe a, by rw [b.length]; exact hl, h1 m F g H env os σ _ _ Q rl b ?_⟩
        rw [e]
        exact h
      · cases e
    · exact h.elim
/-! what is walked -/
theorem walkD_items {J : It} {xs : List V} {ds : List FL.D} {m : List Addr} {F : Hp} {Gd : Hp → Prop} (w : Walk J xs.length Gd (YAt xs)) (hG : ∀ m2 F2 g2 H2, Grow m F m2 F2 → World K cls m2 F2 g2 H2 → Gd H2) (r : RepL K cls m F xs ds) : WalkD K cls J ds m F := by
  refine ⟨Gd, YAt xs, by rw [← r.length]; exact w, hG, fun i m2 F2 g2 H2 x H3 hi gr w2 y => ?_⟩
  obtain ⟨rfl, e⟩ := y
  have hd : ds[i]? = some ds[i] := by simp [hi]
  obtain ⟨v, h1, h2⟩ := r.get hd
  rw [e] at h1
  cases h1
  exact ⟨F2, Step.refl _ _ _ _, w2, _, hd, Rep.mono gr _ _ h2⟩
def fList (fa : Env → G → Res FL.D) : Env → G → Res (List FL.D) := fun env g => (fa env g).bind fun d g1 => match d with
  | .lst xs => .ok xs g1
  | .scr ns => .ok (ns.map FL.D.int) g1
  | _ => .stuck
def fTupl (fa : Env → G → Res FL.D) : Env → G → Res (List FL.D) := fun env g => (fa env g).bind fun d g1 => match d with
  | .tup xs => .ok xs g1
  | _ => .stuck
theorem si_list (ha : SE K cls W ta fa) : SI K cls W (iList K ta) (fList fa) := fun m F g H env os σ R rl h =>
  ha m F g H env os σ _ rl (h.bind fun d g1 v m1 F1 H1 s1 w1 q h1 => by
    cases d <;> first | exact h1.elim | skip
    · cases q with
      | lst a b =>
        refine ⟨_, rfl, ⟨_, SqL.of (w1.fe _ _ a)⟩, h1.here w1 (walkD_items (xs := _) walk_list (fun m2 F2 g2 H2 gr w2 => SqL.of (w2.fe _ _ (gr.F _ _ a))) b)⟩
    · obtain ⟨p, xs, rfl, hs, rr⟩ := seq_rep2 w1 q rfl
      rename_i ns
      cases q with
      | scr a =>
        have hr : ∀ l : List Int, RepL K cls m1 F1 (l.map V.int) (l.map FL.D.int) := fun l => by
          induction l with
          | nil => exact .nil
          | cons x l ih => exact .cons (.int x) ih
        exact ⟨_, rfl, ⟨_, sqL_mono w1.fe a⟩, h1.here w1 (walkD_items walk_list (fun m2 F2 g2 H2 gr w2 => sqL_mono (fun x o e => w2.fe _ _ (gr.F _ _ e)) a) (hr ns))⟩)
theorem si_tup (ha : SE K cls W ta fa) : SI K cls W (iTup K ta) (fTupl fa) := fun m F g H env os σ R rl h =>
  ha m F g H env os σ _ rl (h.bind fun d g1 v m1 F1 H1 s1 w1 q h1 => by
    cases d <;> first | exact h1.elim | skip
    cases q with
    | tup a b => exact ⟨_, rfl, ⟨_, sqT_mono w1.fe a⟩, h1.here w1 (walkD_items walk_tup (fun m2 F2 g2 H2 gr w2 => sqT_mono (fun x o e => w2.fe _ _ (gr.F _ _ e)) a) b)⟩)
def rangeD (lo : Int) (n : Nat) : List FL.D := (List.range n).map fun i => FL.D.int (lo + (i : Nat))
def fRange1 (fa : Env → G → Res (List FL.D)) : Env → G → Res (List FL.D) := fun env g => (fa env g).bind fun ds g1 => match ds with
  | [.int j] => if -(2 ^ 62) ≤ j ∧ j < 2 ^ 62 then .ok (rangeD 0 j.toNat) g1 else .stuck
  | _ => .stuck
def fRange2 (fa : Env → G → Res (List FL.D)) : Env → G → Res (List FL.D) := fun env g => (fa env g).bind fun ds g1 => match ds with
  | [.int i, .int j] => if -(2 ^ 62) ≤ i ∧ i < 2 ^ 62 ∧ -(2 ^ 62) ≤ j ∧ j < 2 ^ 62 then .ok (rangeD i (j - i).toNat) g1 else .stuck
  | _ => .stuck
theorem walkD_range {lo : Int} {n : Nat} {m : List Addr} {F : Hp} : WalkD K cls (Itr lo n) (rangeD lo n) m F := by
  have hl : (rangeD lo n).length = n := by unfold rangeD; rw [List.length_map, List.length_range]
  refine ⟨_, _, by rw [hl]; exact walk_range, fun _ _ _ _ _ _ => trivial, fun i m2 F2 g2 H2 x H3 hi gr w2 y => ?_⟩
  obtain ⟨rfl, rfl⟩ := y
  rw [hl] at hi
  refine ⟨F2, Step.refl _ _ _ _, w2, .int (lo + i), ?_, .int _⟩
  unfold rangeD
  rw [List.getElem?_map, List.getElem?_range hi]
  rfl
theorem si_range1 {tA : TA} {gA : Env → G → Res (List FL.D)} (ha : SA K cls W tA gA) : SI K cls W (iRng1 tA) (fRange1 gA) := fun m F g H env os σ R rl h =>
  ha m F g H env os σ _ rl (h.bind fun ds g1 vs m1 F1 H1 s1 w1 q h1 => by
    split at h1
    · obtain ⟨x, rfl, r0⟩ := repL1 q
      cases r0
      split at h1
      · rename_i hb
        exact ⟨_, rfl, hb.1, hb.2, h1.here w1 walkD_range⟩
      · exact h1.elim
    · exact h1.elim)
theorem si_range2 {tA : TA} {gA : Env → G → Res (List FL.D)} (ha : SA K cls W tA gA) : SI K cls W (iRng2 tA) (fRange2 gA) := fun m F g H env os σ R rl h =>
  ha m F g H env os σ _ rl (h.bind fun ds g1 vs m1 F1 H1 s1 w1 q h1 => by
    split at h1
    · obtain ⟨x, y, rfl, r0, r2⟩ := repL2 q
      cases r0; cases r2
      split at h1
      · rename_i hb
        exact ⟨_, _, rfl, hb, h1.here w1 walkD_range⟩
      · exact h1.elim
    · exact h1.elim)
/-! loops -/
theorem ss_for {wi : TI} {fi : Env → G → Res (List FL.D)} {tg : TG} {ft : FL.D → G → Env → Option Env} {tb : TS} {fb : Env → G → SRes} {ix : List Nat} (hi : SI K cls W wi fi) (hg : SG K cls ix tg ft) (hb : SS K cls W tb fb) : SS K cls W (tFor wi tg tb) (fFor fi ft fb) := fun B D m F g H env os σ rl h => by
  refine hi m F g H env os σ _ rl.r ?_
  unfold fFor at h
  cases e : fi env g with
  | stuck => simp only [e] at h; exact h.elim
  | exc x g1 => simp only [e] at h; exact fun cl dx m1 F1 H1 s w q => h cl dx m1 F1 H1 os σ s.grow (rl.step s w) q
  | ok ds g1 =>
    simp only [e] at h
    intro J m1 F1 H1 s w q
    obtain ⟨Gd, Y, wk, hG, hY⟩ := q
    have r1 := rl.step s w
    refine for_it wk (fun i σ' H' => ∃ m2 F2 g2 env2 os2, Grow m1 F1 m2 F2 ∧ RlB K cls B m2 F2 g2 H' env2 os2 σ' ∧ SatS K cls W B m2 F2 D (loopF ft fb (ds.drop i) env2 g2)) ?_ ?_ ?_ ?_
    · exact ⟨m1, F1, g1, env, os, Grow.refl _ _, r1, SatS.mono h s.grow⟩
    · rintro i σ' H' _ ⟨m2, F2, g2, env2, os2, gr, r2, _⟩
      exact hG m2 F2 g2 H' gr r2.r.w
    · rintro i x σ' H2 H3 hi' ⟨m2, F2, g2, env2, os2, gr, r2, h2⟩ y
      obtain ⟨F3, s3, w3, d, hd, q⟩ := hY i m2 F2 g2 H2 x H3 hi' gr r2.r.w y
      have r3 := r2.step s3 w3
      have hdrop : ds.drop i = d :: ds.drop (i + 1) := by
        rw [List.drop_eq_getElem_cons hi']
        have : ds[i] = d := by
          have := List.getElem?_eq_getElem hi'
          rw [this] at hd
          exact Option.some.inj hd
        rw [this]
      rw [hdrop] at h2
      simp only [loopF] at h2
      refine hg m2 F3 g2 H3 env2 os2 σ' x d _ r3.r q ?_
      cases e1 : ft d g2 env2 with
      | none => simp only [e1] at h2; exact h2.elim
      | some env3 =>
        simp only [e1] at h2
        intro m3 F3' H3' os3 σ3 s3' r4 ho _
        have r5 : RlB K cls B m3 F3' g2 H3' env3 os3 σ3 := ⟨r4, r3.st.trans s3', fun i l e => r3.own i l (ho i l e)⟩
        have s4 := s3.trans s3'
        refine hb B _ m3 F3' g2 H3' env3 os3 σ3 r5 ?_
        have h3 := h2
        cases e2 : fb env3 g2 with
        | next e4 g4 => simp only [e2] at h3; exact fun m4 F4 H4 os4 σ4 gr4 r6 => ⟨m4, F4, g4, e4, os4, (gr.trans s4.grow).trans gr4, r6, SatS.mono h3 (s4.grow.trans gr4)⟩
        | cnt e4 g4 => simp only [e2] at h3; exact fun m4 F4 H4 os4 σ4 gr4 r6 => ⟨m4, F4, g4, e4, os4, (gr.trans s4.grow).trans gr4, r6, SatS.mono h3 (s4.grow.trans gr4)⟩
        | brk e4 g4 => simp only [e2] at h3; exact fun m4 F4 H4 os4 σ4 gr4 r6 => h3 m4 F4 H4 os4 σ4 (s4.grow.trans gr4) r6
        | ret d4 g4 => simp only [e2] at h3; exact h3
        | exc x4 e4 g4 => simp only [e2] at h3; exact SatS.mono (r := .exc x4 e4 g4) h3 s4.grow
        | stuck => simp only [e2] at h3; exact h3.elim
    · rintro σ' H' ⟨m2, F2, g2, env2, os2, gr, r2, h2⟩
      rw [List.drop_length] at h2
      exact h2 m2 F2 H' os2 σ' (Grow.refl _ _) r2
end
end FL

namespace FL
open PySem PySem.Spec PyProof.Rows L2 FR

/-! ### comprehensions -/
def wipeE (env : Env) : List Nat → Env
  | [] => env
  | v :: vs => (wipeE env vs).set v .un
def compF (ft : D → G → Env → Option Env) (fif : Env → G → Res Bool) (fe : Env → G → Res D) (env : Env) : List D → G → Res (List D)
  | [], g => .ok [] g
  | d :: ds, g => match ft d g env with
    | none => .stuck
    | some env1 => match fif env1 g with
      | .ok true g1 => match fe env1 g1 with
        | .ok y g2 => match compF ft fif fe env ds g2 with
          | .ok ys g3 => .ok (y :: ys) g3
          | _ => .stuck
        | _ => .stuck
      | .ok false g1 => compF ft fif fe env ds g1
      | _ => .stuck
def fLc (fi : Env → G → Res (List D)) (ft : D → G → Env → Option Env) (fif : Env → G → Res Bool) (fe : Env → G → Res D) (vs : List Nat) : Env → G → Res D := fun env g => (fi env g).bind fun ds g1 =>
  if ds.length ≤ sizeLine then (match compF ft fif fe (wipeE env vs) ds g1 with
    | .ok ys g2 => .ok (.lst ys) g2
    | _ => .stuck) else .stuck
def fYes : Env → G → Res Bool := fun _ g => .ok true g
abbrev W0 : WX := fun _ _ _ _ => False
section
variable {K : PySem.W.Frag} {cls : Str → Addr} {W : WX} {m : List Addr} {F : Hp} {g : G} {H : Hp} {env : Env} {os : Nat → Option Addr} {σ : L2.St}
theorem wipeE_length (env : Env) : ∀ vs, (wipeE env vs).length = env.length
  | [] => rfl
  | v :: vs => by unfold wipeE; rw [List.length_set, wipeE_length env vs]
theorem wipeE_get {i : Nat} {s : Sl} : ∀ {vs : List Nat}, (wipeE env vs)[i]? = some s → (i ∈ vs ∧ s = .un) ∨ (i ∉ vs ∧ env[i]? = some s)
  | [], h => .inr ⟨by simp, h⟩
  | v :: vs, h => by
    unfold wipeE at h
    by_cases hi : v = i
    · subst hi
      by_cases hv : v < (wipeE env vs).length
      · rw [List.getElem?_set_self hv] at h; cases h; exact .inl ⟨List.mem_cons_self, rfl⟩
      · rw [List.getElem?_eq_none (by simpa using hv)] at h; cases h
    · rw [List.getElem?_set_ne hi] at h
      rcases wipeE_get h with ⟨h1, h2⟩ | ⟨h1, h2⟩
      · exact .inl ⟨List.mem_cons_of_mem _ h1, h2⟩
      · exact .inr ⟨by simp only [List.mem_cons, not_or]; exact ⟨fun e => hi e.symm, h1⟩, h2⟩
theorem wipe_out {i : Nat} : ∀ {vs : List Nat}, i ∉ vs → (wipe σ vs)[i]? = σ[i]?
  | [], _ => rfl
  | v :: vs, h => by
    simp only [List.mem_cons, not_or] at h
    unfold wipe
    rw [List.getElem?_set_ne (Ne.symm h.1), wipe_out h.2]
theorem wipe_in {i : Nat} : ∀ {vs : List Nat}, i ∈ vs → i < σ.length → (wipe σ vs)[i]? = some none
  | v :: vs, h, hl => by
    unfold wipe
    by_cases e : v = i
    · subst e
      exact List.getElem?_set_self (by rw [wipe_length]; exact hl)
    · rw [List.getElem?_set_ne e]
      exact wipe_in ((List.mem_cons.mp h).resolve_left (Ne.symm e)) hl
theorem wipe_eq {σ2 : L2.St} {vs : List Nat} (hl : σ2.length = σ.length) (h : ∀ j, j ∉ vs → σ2[j]? = (wipe σ vs)[j]?) : wipe σ2 vs = wipe σ vs := by
  apply List.ext_getElem?
  intro i
  by_cases hi : i ∈ vs
  · by_cases h2 : i < σ.length
    · rw [wipe_in hi h2, wipe_in hi (by rw [hl]; exact h2)]
    · rw [List.getElem?_eq_none (by rw [wipe_length, hl]; omega), List.getElem?_eq_none (by rw [wipe_length]; omega)]
  · rw [wipe_out hi, h i hi]
theorem Rl.wipe (r : Rl K cls m F g H env os σ) (vs : List Nat) : Rl K cls m F g H (wipeE env vs) (fun j => if j ∈ vs then none else os j) (wipe σ vs) := by
  refine ⟨r.w, fun i s e => ?_, by rw [wipe_length, wipeE_length]; exact r.len, fun i l e => ?_, fun i j l e1 e2 => ?_⟩
  · rcases wipeE_get e with ⟨h1, rfl⟩ | ⟨h1, h2⟩
    · exact if_pos h1
    · have h := r.sl i s h2
      have hs : (L2.wipe σ vs)[i]? = σ[i]? := wipe_out h1
      cases s with
      | un => exact (if_neg h1).trans h
      | val d' =>
        obtain ⟨o, w, h3, h4⟩ := h
        exact ⟨(if_neg h1).trans o, w, hs.trans h3, h4⟩
      | lst ds =>
        obtain ⟨l, xs, h3, h4, h5, h6⟩ := h
        exact ⟨l, xs, (if_neg h1).trans h3, hs.trans h4, h5, h6⟩
      | dct ds =>
        obtain ⟨l, xs, h3, h4, h5, h6⟩ := h
        exact ⟨l, xs, (if_neg h1).trans h3, hs.trans h4, h5, h6⟩
  · have e' : (if i ∈ vs then none else os i) = some l := e
    split at e'
    · cases e'
    · obtain ⟨h1, h2, h3, h4⟩ := r.own i l e'
      exact ⟨h1, h2, h3, by rw [wipeE_length]; exact h4⟩
  · have e1' : (if i ∈ vs then none else os i) = some l := e1
    have e2' : (if j ∈ vs then none else os j) = some l := e2
    split at e1'
    · cases e1'
    · split at e2'
      · cases e2'
      · exact r.inj i j l e1' e2'
/-- a new object that is still written -/
theorem Step.wr {B : Base} {p : Addr} {o : HO} (s : Step B m F g H) (hp : B.H p = none) : Step B m F g (upd H p o) :=
  ⟨s.grow, fun a u e l => by rw [upd_ne (ne_of_none e hp)]; exact s.fr a u e l, s.nF, s.nL, fun a h => s.tr a (up_none h)⟩
theorem World.wr {p : Addr} {o : HO} (w : World K cls m F g H) (hF : F p = none) (hl : ¬ LiveAt m g p) : World K cls m F g (upd H p o) := by
  refine ⟨w.len, fun n c a h1 h2 => ?_, w.nf, w.inj, fun a u e => ?_⟩
  · by_cases hc : c = .dead
    · subst hc; trivial
    · have ne : a ≠ p := fun z => hl (by subst z; exact ⟨n, c, h1, hc, h2⟩)
      exact CellR.mono (Grow.refl _ _) (upd_ne ne) (w.at_ n c a h1 h2)
  · rw [upd_ne (ne_of_none e hF)]
    exact w.fe a u e
theorem World.freeze {p : Addr} {o : HO} (w : World K cls m F g H) (hF : F p = none) (hl : ¬ LiveAt m g p) (e : H p = some o) : World K cls m (upd F p o) g H := by
  refine ⟨w.len, fun n c a h1 h2 => ?_, fun n c a h1 h2 h3 => ?_, w.inj, fun a u e1 => ?_⟩
  · exact CellR.mono (grow_new hF) rfl (w.at_ n c a h1 h2)
  · have ne : a ≠ p := fun z => hl (by subst z; exact ⟨n, c, h1, h2, h3⟩)
    rw [upd_ne ne]
    exact w.nf n c a h1 h2 h3
  · by_cases z : a = p
    · subst z
      rw [upd_same] at e1
      rw [e]
      exact e1
    · rw [upd_ne z] at e1
      exact w.fe a u e1
theorem Step.freeze {B : Base} {p : Addr} {o : HO} (s : Step B m F g H) (hF : F p = none) (hp : B.H p = none) : Step B m (upd F p o) g H :=
  ⟨s.grow.trans (grow_new hF), s.fr, fun a h q => by
    by_cases z : a = p
    · subst z; exact .inl hp
    · rw [upd_ne z] at h; exact s.nF a h q, s.nL, s.tr⟩
theorem se_lc {wi : TI} {fi : Env → G → Res (List FL.D)} {tg : TG} {ft : FL.D → G → Env → Option Env} {tt : TT} {fif : Env → G → Res Bool} {te : TE} {fe : Env → G → Res FL.D} {ix vs : List Nat} (hi : SI K cls W wi fi) (hg : SG K cls ix tg ft) (hif : ST K cls W0 tt fif) (he : SE K cls W0 te fe) (hx : ∀ j ∈ ix, j ∈ vs) :
    SE K cls W (tLc wi tg tt te vs) (fLc fi ft fif fe vs) := fun m F g H env os σ Q rl h =>
  hi m F g H env os σ _ rl (h.bind fun ds g1 J m1 F1 H1 s w q h1 => by
    split at h1
    · rename_i hlen
      obtain ⟨Gd, Y, wk, hG, hY⟩ := q
      intro D hD
      have rl1 := rl.step s w
      have nF : F1 D = none := w.hF hD
      have nL : ¬ LiveAt m1 g1 D := fun l => l.tracked w hD
      obtain ⟨zs, g3, e0, hS⟩ : ∃ zs g3, compF ft fif fe (wipeE env vs) ds g1 = .ok zs g3 ∧ Sat K cls W σ (Rep K cls) ⟨m1, F1, g1, H1⟩ (.ok (.lst zs) g3) Q := by
        cases e : compF ft fif fe (wipeE env vs) ds g1 with
        | ok ys g3 =>
          simp only [e] at h1
          exact ⟨ys, g3, rfl, h1⟩
        | exc x g3 => simp only [e] at h1; exact h1.elim
        | stuck => simp only [e] at h1; exact h1.elim
      refine lc_it wk (fun i H' => ∃ m2 F2 g2 acc accD, Step ⟨m1, F1, g1, H1⟩ m2 F2 g2 H' ∧ World K cls m2 F2 g2 H' ∧ H' D = some (.lst acc) ∧ F2 D = none ∧ ¬ LiveAt m2 g2 D ∧ RepL K cls m2 F2 acc accD ∧ acc.length ≤ i ∧
        ∃ ys, compF ft fif fe (wipeE env vs) (ds.drop i) g2 = .ok ys g3 ∧ accD ++ ys = zs) ?_ ?_ ?_ ?_
      · have s0 : Step ⟨m1, F1, g1, H1⟩ m1 F1 g1 (upd H1 D (.lst [])) := (Step.refl _ _ _ _).wr hD
        exact ⟨m1, F1, g1, [], [], s0, w.wr nF nL, upd_same, nF, nL, .nil, Nat.le_refl _, zs, e0, rfl⟩
      · rintro i H' _ ⟨m2, F2, g2, _, _, s2, w2, _⟩
        exact hG m2 F2 g2 H' s2.grow w2
      · rintro i x H2 H3 hi' ⟨m2, F2, g2, acc, accD, s2, w2, hA, fA, lA, rA, hl, ys, e, hz⟩ y
        obtain ⟨F3, s3, w3, d, hd, qd⟩ := hY i m2 F2 g2 H2 x H3 hi' s2.grow w2 y
        have hdrop : ds.drop i = d :: ds.drop (i + 1) := by
          rw [List.drop_eq_getElem_cons hi']
          have : ds[i] = d := by
            have := List.getElem?_eq_getElem hi'
            rw [this] at hd
            exact Option.some.inj hd
          rw [this]
        rw [hdrop] at e
        simp only [compF] at e
        have s23 := s2.trans s3
        have rl3 := (rl1.step s23 w3).wipe vs
        have keepA : ∀ {m4 F4 g4 H4}, Step ⟨m2, F3, g2, H3⟩ m4 F4 g4 H4 → H4 D = some (.lst acc) ∧ F4 D = none ∧ ¬ LiveAt m4 g4 D := fun {m4 F4 g4 H4} s4 => by
          have hA3 : H3 D = some (.lst acc) := s3.fr D _ hA lA
          have fA3 : F3 D = none := by
            cases z : F3 D with
            | none => rfl
            | some u =>
              rcases s3.nF D (by rw [z]; exact fun y => by cases y) fA with y | y
              · have y' : H2 D = none := y
                rw [hA] at y'; cases y'
              · exact absurd y lA
          refine ⟨s4.fr D _ hA3 lA, ?_, fun z => ?_⟩
          · cases z : F4 D with
            | none => rfl
            | some u =>
              rcases s4.nF D (by rw [z]; exact fun y => by cases y) fA3 with y | y
              · have y' : H3 D = none := y
                rw [hA3] at y'; cases y'
              · exact absurd y lA
          · rcases s4.nL D z with y | y
            · exact lA y
            · have y' : H3 D = none := y
              rw [hA3] at y'; cases y'
        refine hg m2 F3 g2 H3 _ _ _ x d _ rl3 qd ?_
        cases e1 : ft d g2 (wipeE env vs) with
        | none => simp only [e1] at e; cases e
        | some env1 =>
          simp only [e1] at e
          intro m3' F3' H3' os4 σ4 s3' rl4 _ hc
          refine ⟨?_, ?_⟩
          · exact wipe_eq (by rw [hc.1, wipe_length]) fun j hj => hc.2 j fun z => hj (hx j z)
          · refine hif m3' F3' g2 H3' env1 os4 σ4 _ rl4 ?_
            cases e2 : fif env1 g2 with
            | exc x g4 => simp only [e2] at e; cases e
            | stuck => simp only [e2] at e; cases e
            | ok b g4 =>
              simp only [e2] at e
              intro b' m4 F4 H4 s40 w4 eb
              subst eb
              have s4 := s3'.trans s40
              cases b' with
              | true =>
                simp only at e
                rw [if_pos rfl]
                refine he m4 F4 g4 H4 env1 os4 σ4 _ (rl4.step s40 w4) ?_
                cases e3 : fe env1 g4 with
                | exc x g5 => simp only [e3] at e; cases e
                | stuck => simp only [e3] at e; cases e
                | ok yd g5 =>
                  simp only [e3] at e
                  intro v m5 F5 H5 s5 w5 q5
                  cases e4 : compF ft fif fe (wipeE env vs) (ds.drop (i + 1)) g5 with
                  | exc x g6 => simp only [e4] at e; cases e
                  | stuck => simp only [e4] at e; cases e
                  | ok ys' g6 =>
                    simp only [e4] at e
                    have s45 := s4.trans s5
                    obtain ⟨k1, k2, k3⟩ := keepA s45
                    have e5 : ys = yd :: ys' ∧ g6 = g3 := by
                      simp only [Res.ok.injEq] at e
                      exact ⟨e.1.symm, e.2⟩
                    obtain ⟨rfl, rfl⟩ := e5
                    have s25 : Step ⟨m2, F2, g2, H2⟩ m5 F5 g5 H5 := s3.trans s45
                    refine ⟨acc, k1, by omega, ?_⟩
                    exact ⟨m5, F5, g5, acc ++ [v], accD ++ [yd], (s2.trans s25).wr hD, w5.wr k2 k3, upd_same, k2, k3, (RepL.mono s25.grow _ _ rA).append (.cons q5 .nil), (by simp; omega), ys', e4, (by rw [← hz]; simp)⟩
              | false =>
                simp only at e
                rw [if_neg Bool.false_ne_true]
                obtain ⟨k1, k2, k3⟩ := keepA s4
                have s24 : Step ⟨m2, F2, g2, H2⟩ m4 F4 g4 H4 := s3.trans s4
                exact ⟨m4, F4, g4, acc, accD, s2.trans s24, w4, k1, k2, k3, RepL.mono s24.grow _ _ rA, (by omega), ys, e, hz⟩
      · rintro H' ⟨m2, F2, g2, acc, accD, s2, w2, hA, fA, lA, rA, hl, ys, e, hz⟩
        rw [List.drop_length] at e
        simp only [compF, Res.ok.injEq] at e
        obtain ⟨rfl, rfl⟩ := e
        rw [List.append_nil] at hz
        subst hz
        exact hS _ m2 (upd F2 D (.lst acc)) H' (s2.freeze fA hD) (w2.freeze fA lA hA) (.lst upd_same (RepL.mono (grow_new fA) _ _ rA))
    · exact h1.elim)
end
end FL

namespace FR
open PySem PySem.Spec PyProof.Rows L2 PySem.W
section
variable {prog : Program} {w : World} {A : Around} {E : Value → Shared → Prop} {s : Shared}
theorem starT {l : Addr} {items : Array Value} {n i : Nat} {Q : List Value → Shared → Prop} (hl : IsTup s.heap l items) (hh : A.handled = none) (hi : i < n) (hn : n ≤ items.size + 1) (hz : items.size ≤ sizeLine)
    (h : ∀ h' tk, Heap.ExtBut s.heap.objs.size s.heap h' → Q (items.toList.take i ++ [.ref h'.objs.size] ++ (items.toList.drop i).drop (items.size + 1 - n)) { s with heap := h'.push { cls := .type "list", data := .seq ((items.toList.drop i).take (items.size + 1 - n)).toArray }, toks := tk }) :
    wpAny (model prog w) A (unpackItems (.ref l) n (some i)) Q E s := by
  have hlt : l ≠ s.heap.objs.size := by obtain ⟨o, ho, _⟩ := hl; exact Nat.ne_of_lt (Heap.lt_size ho)
  have hll : l < s.heap.objs.size := by obtain ⟨o, ho, _⟩ := hl; exact Heap.lt_size ho
  unfold unpackItems
  refine wpAny_bind ?_
  unfold notIterableAtAll
  refine wpAny_bind (wpAny_specialOf hl.typeIs slot_tuple_iter.lookup ?_)
  refine wpAny_pure ?_
  simp only [Bool.false_eq_true, if_false]
  refine wpAny_bind (wpAny_holding (iter_tuple hl ?_))
  refine wpAny_bind (wpAny_holding (draw_tuple hlt i 0 _ _ ⟨_, Heap.get?_push_size _ rfl, rfl, rfl⟩ (hl.push _) (by omega) fun h₁ hit₁ hs₁ => ?_))
  have hl₁ : IsTup h₁ l items := (hl.push _).extBut hs₁.extBut hlt
  rw [Nat.zero_add] at hit₁
  have hit₁' := hit₁
  obtain ⟨oi, hoi, _⟩ := hit₁'
  have hl₁' := hl₁
  obtain ⟨ol, hol, _⟩ := hl₁'
  rw [List.drop_zero]
  have hfl : (items.toList.take i).length = i := by rw [List.length_take, Array.length_toList]; omega
  rw [if_neg (show ¬ ((items.toList.take i).length < i) by rw [hfl]; omega)]
  refine wpAny_bind (wpAny_holding (kun_collect (s := { s with heap := h₁ }) (T := "tuple_iterator") (.inr (.inr (.inr rfl))) (Walks.tuple (A := A.in1) hh s.heap.objs.size l hlt items) (fun j u st => st.1.typeIs) (k := i) (by omega) ⟨hit₁, hl₁⟩ (Heap.lt_size hoi) (Heap.lt_size hol) (fun h₂ tk hk => ?_) hz))
  have hrl : (items.toList.drop i).length = items.size - i := by rw [List.length_drop, Array.length_toList]
  have hmid : (items.toList.drop i).length - (n - 1 - i) = items.size + 1 - n := by rw [hrl]; omega
  show wpAny _ _ (if (items.toList.drop i).length < n - 1 - i then _ else _) _ _ _
  rw [if_neg (by rw [hrl]; omega)]
  show wpAny _ _ (newList ((items.toList.drop i).take ((items.toList.drop i).length - (n - 1 - i))) >>= fun d => pure (items.toList.take i ++ [d] ++ (items.toList.drop i).drop ((items.toList.drop i).length - (n - 1 - i)))) _ _ _
  rw [hmid]
  have he : Heap.ExtBut s.heap.objs.size s.heap h₂ := fun b o hb e => hk b o hb (hs₁.extBut b o hb (Heap.get?_push_of_some _ e))
  exact wpAny_bind (wpAny_newObj_type (wpAny_pure (h h₂ tk he)) (by show ((items.toList.drop i).take (items.size + 1 - n)).toArray.size ≤ sizeLine; rw [List.size_toArray, List.length_take, hrl]; omega))
theorem starL {l : Addr} {items : Array Value} {n i : Nat} {Q : List Value → Shared → Prop} (hl : s.heap.IsList l items) (hh : A.handled = none) (hi : i < n) (hn : n ≤ items.size + 1) (hz : items.size ≤ sizeLine)
    (h : ∀ h' tk, Heap.ExtBut s.heap.objs.size s.heap h' → Q (items.toList.take i ++ [.ref h'.objs.size] ++ (items.toList.drop i).drop (items.size + 1 - n)) { s with heap := h'.push { cls := .type "list", data := .seq ((items.toList.drop i).take (items.size + 1 - n)).toArray }, toks := tk }) :
    wpAny (model prog w) A (unpackItems (.ref l) n (some i)) Q E s := by
  have hlt : l ≠ s.heap.objs.size := by obtain ⟨o, ho, _⟩ := hl; exact Nat.ne_of_lt (Heap.lt_size ho)
  have hll : l < s.heap.objs.size := by obtain ⟨o, ho, _⟩ := hl; exact Heap.lt_size ho
  unfold unpackItems
  refine wpAny_bind ?_
  unfold notIterableAtAll
  refine wpAny_bind (wpAny_specialOf hl.typeIs slot_list_iter.lookup ?_)
  refine wpAny_pure ?_
  simp only [Bool.false_eq_true, if_false]
  refine wpAny_bind (wpAny_holding (wpAny_pyIter_list hl ?_))
  refine wpAny_bind (wpAny_holding (kun_draw hlt i 0 _ _ ⟨_, Heap.get?_push_size _ rfl, rfl, rfl⟩ (hl.push _) (by omega) fun h₁ hit₁ hs₁ => ?_))
  have hl₁ : h₁.IsList l items := (hl.push _).extBut hs₁.extBut hlt
  rw [Nat.zero_add] at hit₁
  have hit₁' := hit₁
  obtain ⟨oi, hoi, _⟩ := hit₁'
  have hl₁' := hl₁
  obtain ⟨ol, hol, _⟩ := hl₁'
  rw [List.drop_zero]
  have hfl : (items.toList.take i).length = i := by rw [List.length_take, Array.length_toList]; omega
  rw [if_neg (show ¬ ((items.toList.take i).length < i) by rw [hfl]; omega)]
  refine wpAny_bind (wpAny_holding (kun_collect (s := { s with heap := h₁ }) (T := "list_iterator") (.inr (.inr (.inl rfl))) (Walks.list (A := A.in1) hh s.heap.objs.size l hlt items) (fun j u st => st.1.typeIs) (k := i) (by omega) ⟨hit₁, hl₁⟩ (Heap.lt_size hoi) (Heap.lt_size hol) (fun h₂ tk hk => ?_) hz))
  have hrl : (items.toList.drop i).length = items.size - i := by rw [List.length_drop, Array.length_toList]
  have hmid : (items.toList.drop i).length - (n - 1 - i) = items.size + 1 - n := by rw [hrl]; omega
  show wpAny _ _ (if (items.toList.drop i).length < n - 1 - i then _ else _) _ _ _
  rw [if_neg (by rw [hrl]; omega)]
  show wpAny _ _ (newList ((items.toList.drop i).take ((items.toList.drop i).length - (n - 1 - i))) >>= fun d => pure (items.toList.take i ++ [d] ++ (items.toList.drop i).drop ((items.toList.drop i).length - (n - 1 - i)))) _ _ _
  rw [hmid]
  have he : Heap.ExtBut s.heap.objs.size s.heap h₂ := fun b o hb e => hk b o hb (hs₁.extBut b o hb (Heap.get?_push_of_some _ e))
  exact wpAny_bind (wpAny_newObj_type (wpAny_pure (h h₂ tk he)) (by show ((items.toList.drop i).take (items.size + 1 - n)).toArray.size ≤ sizeLine; rw [List.size_toArray, List.length_take, hrl]; omega))
end
end FR
namespace FR
open PySem PySem.Spec PyProof.Rows L2
/-- (a, *r, b) = a list or tuple; i: the star's place among the n targets -/
def gStar (K : PySem.W.Frag) (n i : Nat) (t : TGs) : TG := fun v σ H Q => ∃ a xs, v = .ref a ∧ (SqT K H a xs ∨ SqL K H a xs) ∧ n ≤ xs.length + 1 ∧
  ∀ p, H p = none → t (xs.take i ++ [.ref p] ++ (xs.drop i).drop (xs.length + 1 - n)) σ (upd H p (.lst ((xs.drop i).take (xs.length + 1 - n)))) Q
theorem pg_star {X : Cx} {es es' : List Expr} {k : Nat} {pos : Pos} {t : TGs} {n i : Nat} (hc : X.calm = true) (h : PGs X es' t) (hin : i < n)
    (hn : (assignEach es X.env).length = n := by rfl) (hst : (assignEach es X.env).findIdx? (·.1) = some i := by rfl) (hs : (assignEach es X.env).map (·.2) = (assignEach es' X.env).map (·.2) := by rfl) : PG X (.Tuple es k pos) (gStar X.K n i t) := by
  refine ⟨fun pins s σ H v u Q I r hw => ?_⟩
  obtain ⟨a, xs, e1, hq, hl, hw⟩ := hw
  subst e1
  cases r
  have fin : ∀ (its : List Value) (rv : Vals xs its) (hz : xs.length ≤ sizeLine), (∀ Q' : List Value → Shared → Prop, (∀ h' tk, Heap.ExtBut s.heap.objs.size s.heap h' → Q' (its.take i ++ [.ref h'.objs.size] ++ (its.drop i).drop (its.length + 1 - n)) { s with heap := h'.push { cls := .type "list", data := .seq ((its.drop i).take (its.length + 1 - n)).toArray }, toks := tk }) →
      wpAny (model X.prog X.w) X.A (unpackItems (.ref a) n (some i)) Q' X.xe s) →
      wpAny (model X.prog X.w) X.A (assign (.Tuple es k pos) X.env (.ref a)) (fun _ s' => ∃ σ' H', Inv X pins σ' H' s' ∧ Q σ' H') X.xe s := fun its rv hz hU => by
    rw [assign_Tuple]
    refine wpAny_bind (wpAny_standAt ?_)
    unfold unpack
    rw [hn, hst]
    refine wpAny_bind (wpAny_holding (hU _ fun h' tk hx => ?_))
    have I1 : Inv X pins σ H { s with heap := h', toks := tk } := I.kept (t' := tk) fun b o e => hx b o (Nat.ne_of_lt (Heap.lt_size e)) e
    have hf : H h'.objs.size = none := I1.hok.fresh (Nat.le_refl _)
    have I2 := I1.laid (a := h'.objs.size) (o := .lst ((xs.drop i).take (xs.length + 1 - n))) (h' := h'.push { cls := .type "list", data := .seq ((its.drop i).take (its.length + 1 - n)).toArray }) (t' := tk) (fun b u e => Heap.get?_push_of_some _ e) (Nat.le_refl _)
      ⟨by rw [List.length_take, List.length_drop]; omega, (its.drop i).take (its.length + 1 - n), 0, by rw [← rv.length]; exact (rv.drop i).take _, Heap.get?_push_size _ rfl⟩
    rw [hs]
    refine h.run pins _ σ _ _ _ Q I2 ?_ (hw _ hf)
    rw [← rv.length]
    exact ((rv.take i).append (.cons (show RelV (.ref h'.objs.size) (.ref h'.objs.size) from rfl) .nil)).append ((rv.drop i).drop _)
  rcases hq with hq | hq
  · obtain ⟨its, rv, ht, hz⟩ := I.tuple hq
    refine fin its rv hz fun Q' hQ => ?_
    refine starT ht (I.ok.hd hc) hin (by rw [List.size_toArray, ← rv.length]; exact hl) (by rw [List.size_toArray, ← rv.length]; exact hz) fun h' tk hx => ?_
    simpa using hQ h' tk hx
  · obtain ⟨its, rv, ht, hz⟩ := I.list hq
    refine fin its rv hz fun Q' hQ => ?_
    refine starL ht.isList (I.ok.hd hc) hin (by rw [List.size_toArray, ← rv.length]; exact hl) (by rw [List.size_toArray, ← rv.length]; exact hz) fun h' tk hx => ?_
    simpa using hQ h' tk hx
end FR

namespace FL
open PySem PySem.Spec PyProof.Rows L2 FR

/-! ### star targets, stores, lists of the def's own, while, defs, calls -/
def gStarF (r : List D → G → Env → Option Env) (n i : Nat) : D → G → Env → Option Env := fun d g env =>
  match (match d with | .tup xs => some xs | .lst xs => some xs | _ => none) with
  | some xs => if n ≤ xs.length + 1 then r (xs.take i ++ [.lst ((xs.drop i).take (xs.length + 1 - n))] ++ (xs.drop i).drop (xs.length + 1 - n)) g env else none
  | none => none
/-- a dict's entry put, dropped -/
def setK (kvs : List (Key × D)) (k : Key) (v : D) : List (Key × D) :=
  if (kvs.any fun kv => decide (kv.1 = k)) = true then kvs.map (fun kv => if kv.1 = k then (kv.1, v) else kv) else kvs ++ [(k, v)]
def delK (kvs : List (Key × D)) (k : Key) : List (Key × D) := kvs.filter fun kv => decide (kv.1 ≠ k)
/-- a cell's item or entry is set -/
def setCell (g : G) (o i d : D) : Option G := match o with
  | .ref n => match g[n]? with
    | some (.lst xs) => match i with
      | .int k => (ixN xs.length k).map fun j => g.set n (.lst (xs.set j d))
      | _ => none
    | some (.dct kvs) => match keyD i with
      | some k => if kvs.length < sizeLine then some (g.set n (.dct (setK kvs k d))) else none
      | none => none
    | _ => none
  | _ => none
def fStore (fe fo fi : Env → G → Res D) : Env → G → SRes := fun env g => eS env (fe env g) fun d g1 => eS env (fo env g1) fun o g2 => eS env (fi env g2) fun i g3 => match setCell g3 o i d with
  | some g4 => .next env g4
  | none => .stuck
def fSetL (fa : Env → G → Res (List D)) (i : Nat) : Env → G → SRes := fun env g => match fa env g with
  | .ok ds g1 => if ds.length ≤ sizeLine ∧ i < env.length then .next (env.set i (.lst ds)) g1 else .stuck
  | .exc x g1 => .exc x env g1
  | .stuck => .stuck
def fAppO (i : Nat) (fa : Env → G → Res D) : Env → G → SRes := fun env g => match env[i]? with
  | some (.lst xs) => eS env (fa env g) fun d g1 => if xs.length < sizeLine then .next (env.set i (.lst (xs ++ [d]))) g1 else .stuck
  | _ => .stuck
/-- from here on the i-th slot is a value -/
def frz (i : Nat) (env : Env) : Env := match env[i]? with
  | some (.lst xs) => env.set i (.val (.lst xs))
  | some (.dct xs) => env.set i (.val (.dct xs))
  | _ => env
def fFrz (i : Nat) (f : Env → G → SRes) : Env → G → SRes := fun env g => f (frz i env) g
def startE (n : Nat) (ds : List D) : Env := ds.map .val ++ List.replicate (n - ds.length) .un
def bodyF (p n : Nat) (fb : Env → G → SRes) : List D → G → Res D := fun ds g => if ds.length = p then (match fb (startE n ds) g with
  | .next _ g1 => .ok .non g1
  | .ret d g1 => .ok d g1
  | .exc x _ g1 => .exc x g1
  | _ => .stuck) else .stuck

section
variable {K : PySem.W.Frag} {cls : Str → Addr} {W : WX} {m : List Addr} {F : Hp} {g : G} {H : Hp} {env : Env} {os : Nat → Option Addr} {σ : L2.St}
theorem sg_star {n i : Nat} {tgs : TGs} {fr : List FL.D → G → Env → Option Env} {ix : List Nat} (h1 : SGs K cls ix tgs fr) : SG K cls ix (gStar K n i tgs) (gStarF fr n i) := fun m F g H env os σ v d Q rl q h => by
  have main : ∀ (a : Addr) (xs : List V) (ds : List FL.D), v = .ref a → (SqT K H a xs ∨ SqL K H a xs) → RepL K cls m F xs ds → (match (if n ≤ ds.length + 1 then fr (ds.take i ++ [.lst ((ds.drop i).take (ds.length + 1 - n))] ++ (ds.drop i).drop (ds.length + 1 - n)) g env else none) with
    | some env' => ∀ m' F' H' os' σ', Step ⟨m, F, g, H⟩ m' F' g H' → Rl K cls m' F' g H' env' os' σ' → (∀ j l, os' j = some l → os j = some l) → σ'.length = σ.length ∧ (∀ j, j ∉ ix → σ'[j]? = σ[j]?) → Q σ' H'
    | none => False) → gStar K n i tgs v σ H Q := fun a xs ds e hs r h => by
    split at h
    · rename_i env' e1
      split at e1
      · rename_i hn
        refine ⟨a, xs, e, hs, by rw [r.length]; exact hn, fun p hp => ?_⟩
        rw [r.length]
        obtain ⟨w2, s2⟩ := rl.w.new (o := .lst ((xs.drop i).take (ds.length + 1 - n))) hp
        have r2 := RepL.mono s2.grow _ _ r
        refine h1 m _ g _ env os σ _ _ Q (rl.step s2 w2) (((r2.take i).append (.cons (.lst upd_same ((r2.drop i).take _)) .nil)).append ((r2.drop i).drop (ds.length + 1 - n))) ?_
        rw [e1]
        exact fun m' F' H' os' σ' s3 r3 ho hc => h m' F' H' os' σ' (s2.trans s3) r3 ho hc
      · cases e1
    · exact h.elim
  cases d <;> first | exact h.elim | skip
  · cases q with
    | tup a b => exact main _ _ _ rfl (.inl (sqT_mono rl.w.fe a)) b h
  · cases q with
    | lst a b => exact main _ _ _ rfl (.inr (SqL.of (rl.w.fe _ _ a))) b h
/-- a live cell is written -/
theorem World.setCell (w : World K cls m F g H) {n : Nat} {c c' : Cell} {a : Addr} {o : HO} (hc : g[n]? = some c) (hd : c ≠ .dead) (hm : m[n]? = some a) (hd' : c' ≠ .dead) (hr : CellR K cls m F (upd H a o) a c') :
    World K cls m F (g.set n c') (upd H a o) ∧ Step ⟨m, F, g, H⟩ m F (g.set n c') (upd H a o) := by
  have hn : n < g.length := (List.getElem?_eq_some_iff.mp hc).1
  have la : LiveAt m g a := ⟨n, c, hc, hd, hm⟩
  have at' : ∀ (k : Nat) (e : Cell), (g.set n c')[k]? = some e → (k = n ∧ e = c') ∨ (k ≠ n ∧ g[k]? = some e) := fun k e h => by
    by_cases hk : k = n
    · subst hk
      rw [List.getElem?_set_self hn] at h
      cases h
      exact .inl ⟨rfl, rfl⟩
    · rw [List.getElem?_set_ne (Ne.symm hk)] at h
      exact .inr ⟨hk, h⟩
  refine ⟨⟨by simpa using w.len, fun k e b h1 h2 => ?_, fun k e b h1 h2 h3 => ?_, fun k k' e e' b h1 h2 h3 h4 h5 h6 => ?_, fun b u h => ?_⟩, ⟨Grow.refl _ _, fun b u h1 h2 => ?_, fun b h1 h2 => absurd h2 h1, fun b h => ?_, fun b h => up_none h⟩⟩
  · rcases at' k e h1 with ⟨rfl, rfl⟩ | ⟨hk, h3⟩
    · rw [hm] at h2; cases h2; exact hr
    · by_cases hdd : e = .dead
      · subst hdd; trivial
      · have ne : b ≠ a := fun z => hk (w.inj k n e c a h3 hdd hc hd (z ▸ h2) hm)
        exact CellR.mono (Grow.refl _ _) (upd_ne ne) (w.at_ k e b h3 h2)
  · rcases at' k e h1 with ⟨rfl, rfl⟩ | ⟨hk, h4⟩
    · rw [hm] at h3; cases h3; exact w.nf k c a hc hd hm
    · exact w.nf k e b h4 h2 h3
  · rcases at' k e h1 with ⟨rfl, rfl⟩ | ⟨hk, h7⟩
    · rcases at' k' e' h3 with ⟨rfl, rfl⟩ | ⟨hk', h8⟩
      · rfl
      · rw [hm] at h5; cases h5; exact w.inj k k' c e' a hc hd h8 h4 hm h6
    · rcases at' k' e' h3 with ⟨rfl, rfl⟩ | ⟨hk', h8⟩
      · rw [hm] at h6; cases h6; exact w.inj k k' e c a h7 h2 hc hd h5 hm
      · exact w.inj k k' e e' b h7 h2 h8 h4 h5 h6
  · have ne : b ≠ a := fun z => by subst z; rw [w.nf n c b hc hd hm] at h; cases h
    rw [upd_ne ne]
    exact w.fe b u h
  · have ne : b ≠ a := fun z => h2 (z ▸ la)
    rw [upd_ne ne]
    exact h1
  · obtain ⟨k, e, h1, h2, h3⟩ := h
    rcases at' k e h1 with ⟨rfl, rfl⟩ | ⟨hk, h7⟩
    · rw [hm] at h3; cases h3; exact .inl la
    · exact .inl ⟨k, e, h7, h2, h3⟩
theorem repK_any {k : Key} : ∀ {xs : List (Key × V)} {ds : List (Key × FL.D)}, RepK K cls m F xs ds → (xs.any fun kv => decide (kv.1 = k)) = (ds.any fun kv => decide (kv.1 = k))
  | _, [], r => by cases r; rfl
  | _, d :: ds, r => by
    cases r with
    | cons a b => rw [List.any_cons, List.any_cons, repK_any b]
theorem repK_map {k : Key} {v : V} {d : FL.D} (r : Rep K cls m F v d) : ∀ {xs : List (Key × V)} {ds : List (Key × FL.D)}, RepK K cls m F xs ds → RepK K cls m F (xs.map fun kv => if kv.1 = k then (kv.1, v) else kv) (ds.map fun kv => if kv.1 = k then (kv.1, d) else kv)
  | _, [], q => by cases q; exact .nil
  | _, e :: ds, q => by
    cases q with
    | cons a b =>
      rename_i k' v' xs' d' 
      rw [List.map_cons, List.map_cons]
      by_cases h : k' = k
      · simp only [h, if_true]
        exact .cons r (repK_map r b)
      · simp only [h, if_false]
        exact .cons a (repK_map r b)
theorem repK_append : ∀ {xs ys : List (Key × V)} {ds es : List (Key × FL.D)}, RepK K cls m F xs ds → RepK K cls m F ys es → RepK K cls m F (xs ++ ys) (ds ++ es)
  | _, _, [], _, h, q => by cases h; exact q
  | _, _, d :: ds, _, h, q => by
    cases h with
    | cons a b => exact .cons a (repK_append b q)
theorem putK_rep {k : Key} {v : V} {d : FL.D} (r : Rep K cls m F v d) {xs : List (Key × V)} {ds : List (Key × FL.D)} (q : RepK K cls m F xs ds) : RepK K cls m F (putK xs k v) (setK ds k d) := by
  unfold putK setK
  rw [repK_any q]
  split
  · exact repK_map r q
  · exact repK_append q (.cons r .nil)
theorem dropK_rep {k : Key} : ∀ {xs : List (Key × V)} {ds : List (Key × FL.D)}, RepK K cls m F xs ds → RepK K cls m F (dropK xs k) (delK ds k)
  | _, [], q => by cases q; exact .nil
  | _, e :: ds, q => by
    cases q with
    | cons a b =>
      rename_i k' v' xs' d'
      unfold dropK delK
      rw [List.filter_cons, List.filter_cons]
      by_cases h : k' = k
      · simp only [h, ne_eq, not_true, decide_false, Bool.false_eq_true, if_false]
        exact dropK_rep b
      · simp only [h, ne_eq, not_false_eq_true, decide_true, if_true]
        exact .cons a (dropK_rep b)
/-- o[i] = v, a list or a dict -/
def rSetAll : V → V → V → Hp → (Hp → Prop) → Prop := fun o i v H Q => rSetL o i v H Q ∨ ∃ a H', o = .ref a ∧ DPut H a i v H' ∧ Q H'
theorem set_all {X : Cx} (hu : X.A.units + 1 < cLine) : PSet X rSetAll := by
  intro pins s σ H o i v ov iv u Q I ro ri rv h
  rcases h with h | ⟨a, H', rfl, h, q⟩
  · exact set_list pins s σ H o i v ov iv u Q I ro ri rv h
  · cases ro
    exact d_setItem hu I h ri rv fun s' I' => ⟨H', I', q⟩
theorem live_of {n : Nat} {c : Cell} {v : V} (w : World K cls m F g H) (r : Rep K cls m F v (.ref n)) (e : g[n]? = some c) : ∃ a, v = .ref a ∧ m[n]? = some a ∧ CellR K cls m F H a c := by
  cases r with
  | ref a => exact ⟨_, rfl, a, w.at_ n c _ e a⟩
theorem ss_store {te to ti : TE} {fe fo fi : Env → G → Res FL.D} (he : SE K cls W te fe) (ho : SE K cls W to fo) (hi : SE K cls W ti fi) : SS K cls W (tAsg te (gSub to ti rSetAll)) (fStore fe fo fi) := fun B D m F g H env os σ rl h =>
  he m F g H env os σ _ rl.r (sat_e rl h fun d g1 v m1 F1 H1 s1 r1 q1 h1 => ho m1 F1 g1 H1 env os σ _ r1.r (sat_e r1 h1 fun o g2 ov m2 F2 H2 s2 r2 q2 h2 => hi m2 F2 g2 H2 env os σ _ r2.r (sat_e r2 h2 fun i g3 iv m3 F3 H3 s3 r3 q3 h3 => by
    have q1' := Rep.mono (s2.trans s3).grow _ _ q1
    have q2' := Rep.mono s3.grow _ _ q2
    have hw := r3.r.w
    cases e : setCell g3 o i d with
    | none => simp only [e] at h3; exact h3.elim
    | some g4 =>
      simp only [e] at h3
      unfold setCell at e
      split at e
      · rename_i n
        split at e
        · rename_i xs ec
          split at e
          · rename_i k
            obtain ⟨j, ej, rfl⟩ := Option.map_eq_some_iff.mp e
            obtain ⟨a, rfl, em, us, hH, hL⟩ := live_of hw q2' ec
            cases q3
            refine .inl ⟨a, us, _, j, rfl, rfl, hH, by rw [hL.length]; exact ej, ?_⟩
            obtain ⟨w4, s4⟩ := hw.setCell (c' := .lst (xs.set j d)) (o := .lst (us.set j v)) ec (fun z => by cases z) em (fun z => by cases z) ⟨_, upd_same, RepL.set q1' j hL⟩
            exact h3 m3 F3 _ os σ (Grow.refl _ _) (r3.step s4 w4)
          · cases e
        · rename_i kvs ec
          split at e
          · rename_i k ek
            split at e
            · rename_i hl
              cases e
              obtain ⟨a, rfl, em, us, hH, hL⟩ := live_of hw q2' ec
              obtain rfl := key_rep q3 ek
              refine .inr ⟨a, _, rfl, DPut.k hH (by rw [repK_length hL]; exact hl), ?_⟩
              obtain ⟨w4, s4⟩ := hw.setCell (c' := .dct (setK kvs k d)) (o := .dK (putK us k v)) ec (fun z => by cases z) em (fun z => by cases z) ⟨_, upd_same, putK_rep q1' hL⟩
              exact h3 m3 F3 _ os σ (Grow.refl _ _) (r3.step s4 w4)
            · cases e
          · cases e
        · cases e
      · cases e)))
/-- a fresh list of the def's own -/
theorem Rl.ownNew {i : Nat} {l : Addr} {xs : List V} {ds : List FL.D} (r : Rl K cls m F g H env os σ) (hl : H l = none) (hi : i < env.length) (q : RepL K cls m F xs ds) :
    Rl K cls m F g (upd H l (.lst xs)) (env.set i (.lst ds)) (fun j => if j = i then some l else os j) (σ.set i (some (.ref l))) := by
  have hF : F l = none := r.w.hF hl
  have hL : ¬ LiveAt m g l := fun z => z.tracked r.w hl
  have ne : ∀ j k, os j = some k → k ≠ l := fun j k e z => by
    obtain ⟨_, _, h3, _⟩ := r.own j k e
    rw [z] at h3
    exact h3 hl
  refine ⟨r.w.wr hF hL, fun j s e => ?_, by simpa using r.len, fun j k e => ?_, fun a b k e1 e2 => ?_⟩
  · by_cases hj : j = i
    · subst hj
      rw [List.getElem?_set_self hi] at e
      cases e
      exact ⟨l, xs, if_pos rfl, List.getElem?_set_self (by rw [r.len]; exact hi), upd_same, q⟩
    · rw [List.getElem?_set_ne (Ne.symm hj)] at e
      have h := r.sl j s e
      have hs : (σ.set i (some (.ref l)))[j]? = σ[j]? := List.getElem?_set_ne (Ne.symm hj)
      cases s with
      | un => exact (if_neg hj).trans h
      | val d' =>
        obtain ⟨o, w, h1, h2⟩ := h
        exact ⟨(if_neg hj).trans o, w, hs.trans h1, h2⟩
      | lst ds =>
        obtain ⟨k, ys, h1, h2, h3, h4⟩ := h
        exact ⟨k, ys, (if_neg hj).trans h1, hs.trans h2, (upd_ne (ne j k h1)).trans h3, h4⟩
      | dct ds =>
        obtain ⟨k, ys, h1, h2, h3, h4⟩ := h
        exact ⟨k, ys, (if_neg hj).trans h1, hs.trans h2, (upd_ne (ne j k h1)).trans h3, h4⟩
  · have e' : (if j = i then some l else os j) = some k := e
    split at e'
    · cases e'
      rename_i hj
      exact ⟨hF, hL, (by rw [upd_same]; exact fun z => by cases z), by rw [List.length_set, hj]; exact hi⟩
    · obtain ⟨h1, h2, h3, h4⟩ := r.own j k e'
      exact ⟨h1, h2, (by rw [upd_ne (ne j k e')]; exact h3), by simpa using h4⟩
  · have e1' : (if a = i then some l else os a) = some k := e1
    have e2' : (if b = i then some l else os b) = some k := e2
    split at e1'
    · cases e1'
      split at e2'
      · rename_i h1 h2; rw [h1, h2]
      · exact absurd rfl (ne b _ e2')
    · split at e2'
      · cases e2'
        exact absurd rfl (ne a _ e1')
      · exact r.inj a b k e1' e2'
theorem sat_a {B : Base} {m : List Addr} {F : Hp} {g : G} {H : Hp} {env : Env} {os : Nat → Option Addr} {σ : L2.St} {D : Ends} {r : Res (List FL.D)} {k : List FL.D → G → SRes} {Q : List V → Hp → Prop} (rl : RlB K cls B m F g H env os σ)
    (h : SatS K cls W B m F D (match r with | .ok ds g1 => k ds g1 | .exc x g1 => .exc x env g1 | .stuck => .stuck))
    (hq : ∀ ds g1 vs m1 F1 H1, Step ⟨m, F, g, H⟩ m1 F1 g1 H1 → RlB K cls B m1 F1 g1 H1 env os σ → RepL K cls m1 F1 vs ds → SatS K cls W B m1 F1 D (k ds g1) → Q vs H1) : Sat K cls W σ (RepL K cls) ⟨m, F, g, H⟩ r Q := by
  cases r with
  | ok d g1 => exact fun v m1 F1 H1 s w q => hq d g1 v m1 F1 H1 s (rl.step s w) q (SatS.mono (show SatS K cls W B m F D (k d g1) from h) s.grow)
  | exc x g1 => exact fun cl dx m1 F1 H1 s w q => h cl dx m1 F1 H1 os σ s.grow (rl.step s w) q
  | stuck => exact h
theorem ss_setL {tA : TA} {gA : Env → G → Res (List FL.D)} {i : Nat} (ha : SA K cls W tA gA) : SS K cls W (tAsg (tLst tA) (gName i)) (fSetL gA i) := fun B D m F g H env os σ rl h => by
  refine ha m F g H env os σ _ rl.r (sat_a (k := fun ds g1 => if ds.length ≤ sizeLine ∧ i < env.length then .next (env.set i (.lst ds)) g1 else .stuck) rl h fun ds g1 vs m1 F1 H1 s r1 q h1 => ?_)
  split at h1
  · rename_i hl
    refine ⟨by rw [q.length]; exact hl.1, fun p hp => ?_⟩
    exact h1 m1 F1 _ _ _ (Grow.refl _ _) ⟨r1.r.ownNew hp hl.2 q, r1.st.wr (r1.st.tr p hp), fun j l e => by
      have e' : (if j = i then some p else os j) = some l := e
      split at e'
      · cases e'; exact r1.st.tr p hp
      · exact r1.own j l e'⟩
  · exact h1.elim
/-- the def's own list is written -/
theorem Rl.ownSet {i : Nat} {l : Addr} {xs : List V} {ds ds0 : List FL.D} (r : Rl K cls m F g H env os σ) (e0 : env[i]? = some (.lst ds0)) (ho : os i = some l) (q : RepL K cls m F xs ds) :
    Rl K cls m F g (upd H l (.lst xs)) (env.set i (.lst ds)) os σ := by
  obtain ⟨hF, hL, h3, h4⟩ := r.own i l ho
  have ne : ∀ j k, j ≠ i → os j = some k → k ≠ l := fun j k hj e z => hj (r.inj j i l (z ▸ e) ho)
  refine ⟨r.w.wr hF hL, fun j s e => ?_, by simpa using r.len, fun j k e => ?_, r.inj⟩
  · by_cases hj : j = i
    · subst hj
      rw [List.getElem?_set_self h4] at e
      cases e
      obtain ⟨k, ys, h5, h6, h7, h8⟩ := r.sl j _ e0
      rw [ho] at h5
      cases h5
      exact ⟨l, xs, ho, h6, upd_same, q⟩
    · rw [List.getElem?_set_ne (Ne.symm hj)] at e
      have h := r.sl j s e
      cases s with
      | un => exact h
      | val d' => exact h
      | lst ds =>
        obtain ⟨k, ys, h1, h2, h3, h4⟩ := h
        exact ⟨k, ys, h1, h2, (upd_ne (ne j k hj h1)).trans h3, h4⟩
      | dct ds =>
        obtain ⟨k, ys, h1, h2, h3, h4⟩ := h
        exact ⟨k, ys, h1, h2, (upd_ne (ne j k hj h1)).trans h3, h4⟩
  · obtain ⟨h1, h2, h5, h6⟩ := r.own j k e
    refine ⟨h1, h2, fun z => h5 (up_none z), by simpa using h6⟩
theorem ss_appO {ta : TE} {fa : Env → G → Res FL.D} {i : Nat} (ha : SE K cls W ta fa) : SS K cls W (tDrop (tBM K "list" rAppend (tVar i) (tCons ta tNil))) (fAppO i fa) := fun B D m F g H env os σ rl h => by
  unfold fAppO at h
  split at h
  · rename_i ds e
    obtain ⟨l, xs, h1, h2, h3, h4⟩ := rl.r.sl i _ e
    refine ⟨_, h2, .inl ⟨rfl, xs, SqL.of h3⟩, ha m F g H env os σ _ rl.r (sat_e rl h fun d g1 v m1 F1 H1 s r1 q h5 => ?_)⟩
    split at h5
    · rename_i hl
      obtain ⟨l', xs', k1, k2, k3, k4⟩ := r1.r.sl i _ e
      rw [h1] at k1
      cases k1
      refine ⟨l, xs', v, rfl, rfl, k3, by rw [k4.length]; exact hl, ?_⟩
      exact h5 m1 F1 _ os σ (Grow.refl _ _) ⟨r1.r.ownSet e h1 (k4.append (.cons q .nil)), r1.st.wr (r1.own i l h1), r1.own⟩
    · exact h5.elim
  · exact h.elim
/-- a slot's list becomes a value -/
theorem Rl.frzOwn {i : Nat} {l : Addr} {o : HO} {d : FL.D} (r : Rl K cls m F g H env os σ) (hi : os i = some l) (hs : σ[i]? = some (some (.ref l))) (hH : H l = some o) (q : Rep K cls m (upd F l o) (.ref l) d) :
    Rl K cls m (upd F l o) g H (env.set i (.val d)) (fun j => if j = i then none else os j) σ := by
  obtain ⟨hF, hL, h3, h4⟩ := r.own i l hi
  have gr : Grow m F m (upd F l o) := grow_new hF
  refine ⟨r.w.freeze hF hL hH, fun j s e => ?_, by simpa using r.len, fun j k e => ?_, fun a b k e1 e2 => ?_⟩
  · by_cases hj : j = i
    · subst hj
      rw [List.getElem?_set_self h4] at e
      cases e
      exact ⟨if_pos rfl, _, hs, q⟩
    · rw [List.getElem?_set_ne (Ne.symm hj)] at e
      have h := r.sl j s e
      cases s with
      | un => exact (if_neg hj).trans h
      | val d' =>
        obtain ⟨o', w, h1, h2⟩ := h
        exact ⟨(if_neg hj).trans o', w, h1, Rep.mono gr _ _ h2⟩
      | lst ds =>
        obtain ⟨k, ys, h1, h2, h5, h6⟩ := h
        exact ⟨k, ys, (if_neg hj).trans h1, h2, h5, RepL.mono gr _ _ h6⟩
      | dct ds =>
        obtain ⟨k, ys, h1, h2, h5, h6⟩ := h
        exact ⟨k, ys, (if_neg hj).trans h1, h2, h5, RepK.mono gr _ _ h6⟩
  · have e' : (if j = i then none else os j) = some k := e
    split at e'
    · cases e'
    · rename_i hj
      obtain ⟨h1, h2, h5, h6⟩ := r.own j k e'
      have ne : k ≠ l := fun z => hj (r.inj j i l (z ▸ e') hi)
      exact ⟨(upd_ne ne).trans h1, h2, h5, by simpa using h6⟩
  · have e1' : (if a = i then none else os a) = some k := e1
    have e2' : (if b = i then none else os b) = some k := e2
    split at e1'
    · cases e1'
    · split at e2'
      · cases e2'
      · exact r.inj a b k e1' e2'
theorem RlB.frz {B : Base} (r : RlB K cls B m F g H env os σ) (i : Nat) : ∃ F' os', Grow m F m F' ∧ RlB K cls B m F' g H (frz i env) os' σ := by
  unfold FL.frz
  split
  · rename_i ds e
    obtain ⟨l, xs, h1, h2, h3, h4⟩ := r.r.sl i _ e
    obtain ⟨hF, hL, h5, h6⟩ := r.r.own i l h1
    refine ⟨upd F l (.lst xs), _, grow_new hF, r.r.frzOwn h1 h2 h3 (.lst upd_same (RepL.mono (grow_new hF) _ _ h4)), r.st.freeze hF (r.own i l h1), fun j k e => ?_⟩
    have e' : (if j = i then none else os j) = some k := e
    split at e'
    · cases e'
    · exact r.own j k e'
  · rename_i ds e
    obtain ⟨l, xs, h1, h2, h3, h4⟩ := r.r.sl i _ e
    obtain ⟨hF, hL, h5, h6⟩ := r.r.own i l h1
    refine ⟨upd F l (.dK xs), _, grow_new hF, r.r.frzOwn h1 h2 h3 (.dct upd_same (RepK.mono (grow_new hF) _ _ h4)), r.st.freeze hF (r.own i l h1), fun j k e => ?_⟩
    have e' : (if j = i then none else os j) = some k := e
    split at e'
    · cases e'
    · exact r.own j k e'
  · exact ⟨F, os, Grow.refl _ _, r⟩
theorem ss_frz {t : TS} {f : Env → G → SRes} {i : Nat} (h : SS K cls W t f) : SS K cls W t (fFrz i f) := fun B D m F g H env os σ rl hs => by
  obtain ⟨F', os', gr, r⟩ := rl.frz i
  exact h B D m F' g H _ os' σ r (SatS.mono hs gr)
theorem ss_while {tt : TT} {fc : Env → G → Res Bool} {t : TS} {fb : Env → G → SRes} (n : Nat) (hc : ST K cls W tt fc) (hb : SS K cls W t fb) : SS K cls W (tWhile tt t) (whileF fc fb n) := fun B D m F g H env os σ rl h => by
  refine ⟨fun k σ' H' => ∃ m2 F2 g2 env2 os2, Grow m F m2 F2 ∧ RlB K cls B m2 F2 g2 H' env2 os2 σ' ∧ SatS K cls W B m2 F2 D (whileF fc fb k env2 g2), ⟨n, m, F, g, env, os, Grow.refl _ _, rl, h⟩, ?_⟩
  rintro k σ' H' ⟨m2, F2, g2, env2, os2, gr, r2, h2⟩
  cases k with
  | zero => exact h2.elim
  | succ k =>
    refine hc m2 F2 g2 H' env2 os2 σ' _ r2.r ?_
    unfold whileF at h2
    cases e : fc env2 g2 with
    | stuck => simp only [e] at h2; exact h2.elim
    | exc x g3 => simp only [e] at h2; exact fun cl dx m3 F3 H3 s w q => h2 cl dx m3 F3 H3 os2 σ' s.grow (r2.step s w) q
    | ok b g3 =>
      intro b' m3 F3 H3 s w eb
      subst eb
      have r3 := r2.step s w
      cases b' with
      | false =>
        simp only [e] at h2
        rw [if_neg Bool.false_ne_true]
        exact h2 m3 F3 H3 os2 σ' s.grow r3
      | true =>
        simp only [e] at h2
        rw [if_pos rfl]
        refine ⟨fun σ4 H4 => ∃ m4 F4 g4 env4 os4, Grow m F m4 F4 ∧ RlB K cls B m4 F4 g4 H4 env4 os4 σ4 ∧ SatS K cls W B m4 F4 D (whileF fc fb k env4 g4), fun σ4 H4 q => ⟨k, Nat.lt_succ_self k, q⟩, ?_⟩
        refine hb B _ m3 F3 g3 H3 env2 os2 σ' r3 ?_
        cases e2 : fb env2 g3 with
        | next e4 g4 => simp only [e2] at h2; exact fun m4 F4 H4 os4 σ4 gr4 r6 => ⟨m4, F4, g4, e4, os4, (gr.trans s.grow).trans gr4, r6, SatS.mono h2 (s.grow.trans gr4)⟩
        | cnt e4 g4 => simp only [e2] at h2; exact fun m4 F4 H4 os4 σ4 gr4 r6 => ⟨m4, F4, g4, e4, os4, (gr.trans s.grow).trans gr4, r6, SatS.mono h2 (s.grow.trans gr4)⟩
        | brk e4 g4 => simp only [e2] at h2; exact fun m4 F4 H4 os4 σ4 gr4 r6 => h2 m4 F4 H4 os4 σ4 (s.grow.trans gr4) r6
        | ret d4 g4 => simp only [e2] at h2; exact h2
        | exc x4 e4 g4 => simp only [e2] at h2; exact SatS.mono (r := .exc x4 e4 g4) h2 s.grow
        | stuck => simp only [e2] at h2; exact h2.elim
end

/-! ### defs -/
/-- what a def promises: on data ds and the store g it is Fn ds g -/
def spF (K : PySem.W.Frag) (cls : Str → Addr) (p : Nat) (Fn : List D → G → Res D) : Sp := fun vs H Q E => vs.length = p ∧ ∃ m F g ds, World K cls m F g H ∧ RepL K cls m F vs ds ∧ Sat K cls (fun cl dx _ H' => E cl dx H') [] (Rep K cls) ⟨m, F, g, H⟩ (Fn ds g) Q
section
variable (P : Program) (w : PySem.World) (K : PySem.W.Frag) (mg : Str → Option Value) (base : Heap) (cls : Str → Addr)
/-- the module's name x is a def that is Fn -/
structure GF (x : Str) (k p : Nat) (Fn : List D → G → Res D) : Prop where
  ex : ∃ f fd ps, FnOk P w K mg base (L2.CX P w) k f fd ps (spF K cls p Fn) ∧ mg x = some (.ref f) ∧ PySem.W.keepIn K (.ref f) = true ∧ L2.Binds K fd ps []
  st : ∀ ds g, ds.length ≠ p → Fn ds g = .stuck
end
theorem bodyF_st (p n : Nat) (fb : Env → G → SRes) : ∀ ds g, ds.length ≠ p → bodyF p n fb ds g = .stuck := fun ds g h => by
  unfold bodyF
  rw [if_neg h]
section
variable {K : PySem.W.Frag} {cls : Str → Addr}
theorem startE_get {n : Nat} {ds : List D} {i : Nat} {s : Sl} (h : (startE n ds)[i]? = some s) : (∃ d, ds[i]? = some d ∧ s = .val d) ∨ (ds[i]? = none ∧ s = .un) := by
  unfold startE at h
  by_cases hi : i < ds.length
  · rw [List.getElem?_append_left (by simpa using hi), List.getElem?_map] at h
    cases e : ds[i]? with
    | none => rw [e] at h; cases h
    | some d => rw [e] at h; cases h; exact .inl ⟨d, rfl, rfl⟩
  · rw [List.getElem?_append_right (by simpa using hi), List.getElem?_replicate] at h
    split at h
    · cases h; exact .inr ⟨List.getElem?_eq_none (by omega), rfl⟩
    · cases h
theorem rl_start {m : List Addr} {F : Hp} {g : G} {H : Hp} {N : List Str} {vs : List V} {ds : List D} (w : World K cls m F g H) (r : RepL K cls m F vs ds) : Rl K cls m F g H (startE N.length ds) (fun _ => none) (start N vs) := by
  refine ⟨w, fun i s e => ?_, ?_, fun i l e => (by cases e), fun i j l e => (by cases e)⟩
  · rcases startE_get e with ⟨d, h1, rfl⟩ | ⟨h1, rfl⟩
    · obtain ⟨v, h2, h3⟩ := r.get h1
      refine ⟨rfl, v, ?_, h3⟩
      unfold L2.start
      have hi : i < vs.length := (List.getElem?_eq_some_iff.mp h2).1
      rw [List.getElem?_append_left (by simpa using hi), List.getElem?_map, h2]
      rfl
    · exact rfl
  · unfold L2.start startE
    rw [List.length_append, List.length_append, List.length_map, List.length_map, List.length_replicate, List.length_replicate, r.length]
variable {P : Program} {w : PySem.World} {mg : Str → Option Value} {base : Heap}
/-- THE RULE of a def -/
theorem fn_F {x qual : Str} {st : Stmt} {dvs : List V} {kws : List (Str × V)} {f : Addr} {fd : FuncData} {N ps : List Str} {k p : Nat} {fb : Env → G → SRes} (F : FunD K x qual (defArgs st) (defBody st) (defScope st) dvs kws f fd) (S : FnScope N ps (defScope st)) (hp : ps.length = p)
    (hbody : ∀ (cdv : Value) (A : Around) (outer : List PySem.Env) (s : Shared) (H : Hp) (E : XK), Room k (A.deeper (envOfC qual (defScope st) s.heap.objs.size f cdv)) →
      ∃ t, FSs cls (cxOf (L2.CX P w) P w K mg base N qual (defScope st) f cdv A outer s H E) (fun cl dx _ H' => E cl dx H') (defBody st) t fb) : FnOk P w K mg base (L2.CX P w) (k + 1) f fd ps (spF K cls p (bodyF p N.length fb)) := by
  refine F.ok S (fun vs H Q E h => h.1.trans hp.symm) fun cdv A outer s H vs Q E hr h => ?_
  obtain ⟨t, hp', hs⟩ := hbody cdv A outer s H E hr
  obtain ⟨hl, m, F0, g, ds, wd, rl, sat⟩ := h
  refine ⟨t, hp', hs ⟨m, F0, g, H⟩ _ m F0 g H (startE N.length ds) (fun _ => none) (start N vs) ⟨rl_start wd rl, Step.refl _ _ _ _, fun i l e => (by cases e)⟩ ?_⟩
  unfold bodyF at sat
  rw [if_pos (by rw [← rl.length]; exact hl)] at sat
  cases e : fb (startE N.length ds) g with
  | next e1 g1 => simp only [e] at sat; exact fun m1 F1 H1 os σ gr r => sat .non m1 F1 H1 r.st r.r.w .non
  | ret d g1 => simp only [e] at sat; exact fun v m1 F1 H1 s w r => sat v m1 F1 H1 s w r
  | exc x e1 g1 => simp only [e] at sat; exact fun cl dx m1 F1 H1 os σ gr r q => sat cl dx m1 F1 H1 r.st r.r.w q
  | brk e1 g1 => simp only [e] at sat; exact sat.elim
  | cnt e1 g1 => simp only [e] at sat; exact sat.elim
  | stuck => simp only [e] at sat; exact sat.elim
theorem Sat.wish {α β : Type} {W W' : WX} {σ σ' : L2.St} {rep : List Addr → Hp → β → α → Prop} {S : Base} {r : Res α} {Q : β → Hp → Prop} (h : Sat K cls W σ rep S r Q) (hw : ∀ cl dx H, W cl dx σ H → W' cl dx σ' H) : Sat K cls W' σ' rep S r Q := by
  cases r with
  | ok a g => exact h
  | exc x g => exact fun cl dx m F H s w q => hw cl dx H (h cl dx m F H s w q)
  | stuck => exact h
/-- a call of a def of the module -/
theorem fe_call {X : Cx} {W : WX} {x : Str} {k p : Nat} {Fn : List D → G → Res D} {pp pos : Pos} {e : Expr} {es : List Expr} {tA : TA} {gA : Env → G → Res (List D)} (hf : GF X.prog X.w X.K X.mg X.base cls x k p Fn) (tk : Takes X W) (hr : Room k X.A)
    (ha : FA cls X W (e :: es) tA gA) (hg : Gl X x := by rfl) (hdb : (x == ("__debug__" : Str)) = false := by decide) (he : starEach (e :: es) X.env = (false, eval e X.env) :: starEach es X.env := by rfl) (hpl : (backTo pos (starEach es X.env)).any (·.1) = false := by rfl) :
    FE cls X W (.Call (.Name x pp) (e :: es) [] pos) (tCallS (spF X.K cls p Fn) (fun σ => WE W σ) tA) (fCall Fn gA) := by
  obtain ⟨f, fd, ps, F, hm, hk, hb⟩ := hf.ex
  refine ⟨pe_callS F hr hg hm hk hb (fun σ => passAt tk σ) ha.p hdb he hpl, fun m F0 g H env os σ Q rl h => ha.s m F0 g H env os σ _ rl (h.bind fun ds g1 vs m1 F1 H1 s1 w1 r1 h1 => ⟨?_, m1, F1, g1, ds, w1, r1, h1.wish fun cl dx H h => h⟩)⟩
  rw [r1.length]
  by_cases q : ds.length = p
  · exact q
  · rw [hf.st ds g1 q] at h1
    exact h1.elim
end
end FL

namespace FL
open PySem PySem.Spec PyProof.Rows L2 FR

/-! ### the rules as one writes them -/
section
variable (cls : Str → Addr) (X : Cx) (W : WX)
structure FG (tg : Expr) (ix : List Nat) (t : TG) (f : D → G → Env → Option Env) : Prop where
  p : PG X tg t
  s : SG X.K cls ix t f
structure FGs (tgs : List Expr) (ix : List Nat) (t : TGs) (f : List D → G → Env → Option Env) : Prop where
  p : PGs X tgs t
  s : SGs X.K cls ix t f
structure FI (tg iter : Expr) (t : TI) (f : Env → G → Res (List D)) : Prop where
  p : PI X tg iter t
  s : SI X.K cls W t f
structure FTs (ifs : List Expr) (t : TT) (f : Env → G → Res Bool) : Prop where
  p : PTs X ifs t
  s : ST X.K cls W t f
/-- a slice's part -/
structure FO (e : Option Expr) (t : TO) (f : Env → G → Res (Option Int)) : Prop where
  p : PO X e t
  s : ∀ m F g H env os σ (Q : Option Int → Hp → Prop), Rl X.K cls m F g H env os σ → Sat X.K cls W σ (fun _ _ (b : Option Int) c => b = c) ⟨m, F, g, H⟩ (f env g) Q → t σ H Q
end
def fNoPart : Env → G → Res (Option Int) := fun _ g => .ok none g
def fPart (fa : Env → G → Res D) : Env → G → Res (Option Int) := fun env g => (fa env g).bind fun d g1 => match d with
  | .int i => .ok (some i) g1
  | _ => .stuck
def fSlice (fa : Env → G → Res D) (fl fh : Env → G → Res (Option Int)) : Env → G → Res D := fun env g => (fa env g).bind fun a g1 => (fl env g1).bind fun lo g2 => (fh env g2).bind fun hi g3 => dSl a lo hi g3
def fChain (op op' : D → D → G → Res D) (fa fb fc : Env → G → Res D) : Env → G → Res D := fun env g => (fa env g).bind fun a g1 => (fb env g1).bind fun b g2 => (op a b g2).bind fun z g3 => match z with
  | .bl true => (fc env g3).bind fun c g4 => op' b c g4
  | .bl false => .ok (.bl false) g3
  | _ => .stuck
def fPar (i j : Nat) (fa : Env → G → Res (List D)) : Env → G → SRes := fun env g => match fa env g with
  | .ok [a, b] g1 => if i < env.length ∧ j < env.length then .next ((env.set i (.val a)).set j (.val b)) g1 else .stuck
  | .ok _ _ => .stuck
  | .exc x g1 => .exc x env g1
  | .stuck => .stuck

section
variable {K : PySem.W.Frag} {cls : Str → Addr} {X : Cx} {W : WX} {e a b c o i : Expr} {es : List Expr} {ta tb tc te : TE} {fa fb fc fe : Env → G → Res D} {tA tr : TA} {gA gr : Env → G → Res (List D)} {tt uu : TT} {p q : Env → G → Res Bool} {pos pp p2 : Pos} {x : Str}
theorem fe_name (i : Nat) (hN : X.N[i]? = some x := by rfl) (hv : Vis X.env.scope x := by first | exact Or.inl rfl | exact Or.inr (Or.inl rfl) | exact Or.inr (Or.inr rfl)) (hd : (x == ("__debug__" : Str)) = false := by decide)
    (hcd : (x == ("__classdict__" : Str)) = false := by decide) : FE cls X W (.Name x pos) (tVar i) (fVar i) := ⟨pe_var hN hv hd hcd, se_var i⟩
theorem fe_int {n : Int} {j} : FE cls X W (.Constant (.int n) j pos) (tC (.int n)) (fC (.int n)) := ⟨pe_int, se_c fun _ _ => .int n⟩
theorem fe_bl {n : Bool} {j} : FE cls X W (.Constant (.bool n) j pos) (tC (.bl n)) (fC (.bl n)) := ⟨pe_bl, se_c fun _ _ => .bl n⟩
theorem fe_non {j} : FE cls X W (.Constant .none j pos) (tC .non) (fC .non) := ⟨pe_non, se_c fun _ _ => .non⟩
theorem fe_str {n : Str} {j} : FE cls X W (.Constant (.str n) j pos) (tC (.str n)) (fC (.str n)) := ⟨pe_str, se_c fun _ _ => .str n⟩
theorem fe_gint {n : Int} (hm : ∃ t, X.mg x = some (.int n t)) (hg : Gl X x := by rfl) (hd : (x == ("__debug__" : Str)) = false := by decide) : FE cls X W (.Name x pos) (tC (.int n)) (fC (.int n)) := by
  obtain ⟨t, h⟩ := hm
  exact ⟨pe_glob hg h ⟨t, rfl⟩ hd, se_c fun _ _ => .int n⟩
theorem fe_gstr {n : Str} (hm : ∃ t, X.mg x = some (.str n t)) (hg : Gl X x := by rfl) (hd : (x == ("__debug__" : Str)) = false := by decide) : FE cls X W (.Name x pos) (tC (.str n)) (fC (.str n)) := by
  obtain ⟨t, h⟩ := hm
  exact ⟨pe_glob hg h ⟨t, rfl⟩ hd, se_c fun _ _ => .str n⟩
/-- a module's constant that stands for d whatever is frozen -/
theorem fe_gobj {ad : Addr} {d : D} (hm : X.mg x = some (.ref ad)) (hr : ∀ m F, Rep X.K cls m F (.ref ad) d) (hg : Gl X x := by rfl) (hd : (x == ("__debug__" : Str)) = false := by decide) : FE cls X W (.Name x pos) (tC (.ref ad)) (fC d) :=
  ⟨pe_glob hg hm rfl hd, se_c hr⟩
theorem fe_add (ha : FE cls X W a ta fa) (hb : FE cls X W b tb fb) : FE cls X W (.BinOp a .Add b pos) (tOp (rAddAll X.K) ta tb) (f2 dAdd fa fb) := ⟨pe_op op_addAll ha.p hb.p, se_op ops_add ha.s hb.s⟩
theorem fe_sub (ha : FE cls X W a ta fa) (hb : FE cls X W b tb fb) : FE cls X W (.BinOp a .Sub b pos) (tOp (rI0 fun i j => .int (i - j)) ta tb) (f2 dSub fa fb) := ⟨pe_op op_sub ha.p hb.p, se_op (ops_I _) ha.s hb.s⟩
theorem fe_mul (ha : FE cls X W a ta fa) (hb : FE cls X W b tb fb) : FE cls X W (.BinOp a .Mult b pos) (tOp (rI CMul fun i j => .int (i * j)) ta tb) (f2 dMul fa fb) := ⟨pe_op op_mul ha.p hb.p, se_op (ops_IC (C' := CMul) fun _ _ h => of_decide_eq_true (p := (-(2 ^ 64) < _ ∧ _ < 2 ^ 64) ∨ (-(2 ^ 64) < _ ∧ _ < 2 ^ 64)) h) ha.s hb.s⟩
theorem fe_mod (ha : FE cls X W a ta fa) (hb : FE cls X W b tb fb) : FE cls X W (.BinOp a .Mod b pos) (tOp (rI (fun _ j => 0 < j) fun i j => .int (i % j)) ta tb) (f2 dMod fa fb) := ⟨pe_op op_mod ha.p hb.p, se_op (ops_IC fun _ _ h => of_decide_eq_true h) ha.s hb.s⟩
theorem fe_div (ha : FE cls X W a ta fa) (hb : FE cls X W b tb fb) : FE cls X W (.BinOp a .FloorDiv b pos) (tOp (rI CDiv fun i j => .int (i / j)) ta tb) (f2 dDiv fa fb) := ⟨pe_op op_fdiv ha.p hb.p, se_op (ops_IC (C' := CDiv) fun _ _ h => of_decide_eq_true (p := 0 < _ ∧ _ < 1073741824) h) ha.s hb.s⟩
theorem fe_pow (ha : FE cls X W a ta fa) (hb : FE cls X W b tb fb) : FE cls X W (.BinOp a .Pow b pos) (tOp (rI CPow fun i j => .int (i ^ j.toNat)) ta tb) (f2 dPow fa fb) := ⟨pe_op op_pow ha.p hb.p, se_op (ops_IC (C' := CPow) fun _ _ h => of_decide_eq_true (p := 0 ≤ _ ∧ _ ≤ 1000000 ∧ Int.natAbs _ < 2 ^ 64) h) ha.s hb.s⟩
def dNeg : D → G → Res D
  | .int i, g => .ok (.int (-i)) g
  | _, _ => .stuck
theorem fe_neg (ha : FE cls X W a ta fa) : FE cls X W (.UnaryOp .USub a pos) (tUn (rU fun i => .int (-i)) ta) (f1 dNeg fa) := ⟨pe_un un_neg ha.p, se_un (fun m F g H σ Q x d w r h => by
  cases d <;> first | exact h.elim | skip
  cases r
  exact ⟨_, rfl, h.here w (.int _)⟩) ha.s⟩
/-! comparisons, as values -/
theorem fe_lt (ha : FE cls X W a ta fa) (hb : FE cls X W b tb fb) : FE cls X W (.Compare a [.Lt] [b] pos) (tOp (rI0 fun i j => .bl (decide (i < j))) ta tb) (f2 dLt fa fb) := ⟨pe_cmpR op_lt ha.p hb.p (nomark _), se_op (ops_cmp _) ha.s hb.s⟩
theorem fe_le (ha : FE cls X W a ta fa) (hb : FE cls X W b tb fb) : FE cls X W (.Compare a [.LtE] [b] pos) (tOp (rI0 fun i j => .bl (decide (i ≤ j))) ta tb) (f2 dLe fa fb) := ⟨pe_cmpR op_le ha.p hb.p (nomark _), se_op (ops_cmp _) ha.s hb.s⟩
theorem fe_gt (ha : FE cls X W a ta fa) (hb : FE cls X W b tb fb) : FE cls X W (.Compare a [.Gt] [b] pos) (tOp (rI0 fun i j => .bl (decide (j < i))) ta tb) (f2 dGt fa fb) := ⟨pe_cmpR op_gt ha.p hb.p (nomark _), se_op (ops_cmp _) ha.s hb.s⟩
theorem fe_ge (ha : FE cls X W a ta fa) (hb : FE cls X W b tb fb) : FE cls X W (.Compare a [.GtE] [b] pos) (tOp (rI0 fun i j => .bl (decide (j ≤ i))) ta tb) (f2 dGe fa fb) := ⟨pe_cmpR op_ge ha.p hb.p (nomark _), se_op (ops_cmp _) ha.s hb.s⟩
theorem fe_eq (hu : X.A.units + 64 < cLine) (ha : FE cls X W a ta fa) (hb : FE cls X W b tb fb) : FE cls X W (.Compare a [.Eq] [b] pos) (tOp (rEqAll X.K) ta tb) (f2 (dEq false) fa fb) := ⟨pe_cmpR (op_eqAll hu) ha.p hb.p (nomark _), se_op ops_eq ha.s hb.s⟩
theorem fe_ne (hu : X.A.units + 64 < cLine) (ha : FE cls X W a ta fa) (hb : FE cls X W b tb fb) : FE cls X W (.Compare a [.NotEq] [b] pos) (tOp (rNeAll X.K) ta tb) (f2 (dEq true) fa fb) := ⟨pe_cmpR (op_neAll hu) ha.p hb.p (nomark _), se_op ops_ne ha.s hb.s⟩
theorem un1 {A : Around} (h : A.units + 64 < cLine) : A.units + 1 < cLine := Nat.lt_of_le_of_lt (Nat.add_le_add_left (by decide) _) h
theorem fe_in (hu : X.A.units + 64 < cLine) (ha : FE cls X W a ta fa) (hb : FE cls X W b tb fb) (hm : behindInMarks .In b = false := by rfl) : FE cls X W (.Compare a [.In] [b] pos) (tOp (rInAll X.K false) ta tb) (f2 (dIn false) fa fb) := ⟨pe_cmpR (op_inAll (un1 hu)) ha.p hb.p hm, se_op ops_in ha.s hb.s⟩
theorem fe_notin (hu : X.A.units + 64 < cLine) (ha : FE cls X W a ta fa) (hb : FE cls X W b tb fb) (hm : behindInMarks .NotIn b = false := by rfl) : FE cls X W (.Compare a [.NotIn] [b] pos) (tOp (rInAll X.K true) ta tb) (f2 (dIn true) fa fb) := ⟨pe_cmpR (op_notinAll (un1 hu)) ha.p hb.p hm, se_op ops_in ha.s hb.s⟩
theorem fe_isN {j} (ha : FE cls X W a ta fa) : FE cls X W (.Compare a [.Is] [.Constant .none j p2] pos) (tOp (rIsN false) ta (tC .non)) (f1 (dIsN false) fa) := ⟨pe_cmpR op_isN' ha.p pe_non (nomark _), se_isN ha.s⟩
theorem fe_notN {j} (ha : FE cls X W a ta fa) : FE cls X W (.Compare a [.IsNot] [.Constant .none j p2] pos) (tOp (rIsN true) ta (tC .non)) (f1 (dIsN true) fa) := ⟨pe_cmpR op_notN' ha.p pe_non (nomark _), se_isN ha.s⟩
theorem se_chain {r r' : R2} {op op' : D → D → G → Res D} (hr : OpS K cls W r op) (hr' : OpS K cls W r' op') (ha : SE K cls W ta fa) (hb : SE K cls W tb fb) (hc : SE K cls W tc fc) : SE K cls W (tChain r r' ta tb tc) (fChain op op' fa fb fc) := fun m F g H env os σ Q rl h =>
  ha m F g H env os σ _ rl (h.bind fun a g1 x m1 F1 H1 s1 w1 r1 h1 => hb m1 F1 g1 H1 env os σ _ (rl.step s1 w1) (h1.bind fun b g2 y m2 F2 H2 s2 w2 r2 h2 => by
    refine hr m2 F2 g2 H2 σ _ x y a b w2 (Rep.mono s2.grow _ _ r1) r2 (h2.bind fun z g3 zv m3 F3 H3 s3 w3 r3 h3 => ?_)
    cases z <;> first | exact h3.elim | skip
    rename_i k
    cases r3
    refine ⟨k, rfl, ?_⟩
    cases k with
    | true =>
      rw [if_pos rfl]
      refine hc m3 F3 g3 H3 env os σ _ (((rl.step s1 w1).step s2 w2).step s3 w3) (Sat.bind (show Sat K cls W σ (Rep K cls) ⟨m3, F3, g3, H3⟩ ((fc env g3).bind fun c g4 => op' b c g4) Q from h3) fun c g4 cv m4 F4 H4 s4 w4 r4 h4 => ?_)
      exact hr' m4 F4 g4 H4 σ Q y cv b c w4 (Rep.mono (s3.trans s4).grow _ _ r2) r4 h4
    | false =>
      rw [if_neg Bool.false_ne_true]
      exact Sat.here (show Sat K cls W σ (Rep K cls) ⟨m3, F3, g3, H3⟩ (.ok (.bl false) g3) Q from h3) w3 (.bl false)))
theorem fe_leLt (ha : FE cls X W a ta fa) (hb : FE cls X W b tb fb) (hc : FE cls X W c tc fc) (hm : lastMarks [.LtE, .Lt] [b, c] = false := by with_unfolding_all rfl) : FE cls X W (.Compare a [.LtE, .Lt] [b, c] pos) (tChain (rI0 fun i j => .bl (decide (i ≤ j))) (rI0 fun i j => .bl (decide (i < j))) ta tb tc) (fChain dLe dLt fa fb fc) :=
  ⟨pe_chain op_le op_lt ha.p hb.p hc.p hm, se_chain (ops_cmp _) (ops_cmp _) ha.s hb.s hc.s⟩
theorem fe_leLe (ha : FE cls X W a ta fa) (hb : FE cls X W b tb fb) (hc : FE cls X W c tc fc) (hm : lastMarks [.LtE, .LtE] [b, c] = false := by with_unfolding_all rfl) : FE cls X W (.Compare a [.LtE, .LtE] [b, c] pos) (tChain (rI0 fun i j => .bl (decide (i ≤ j))) (rI0 fun i j => .bl (decide (i ≤ j))) ta tb tc) (fChain dLe dLe fa fb fc) :=
  ⟨pe_chain op_le op_le ha.p hb.p hc.p hm, se_chain (ops_cmp _) (ops_cmp _) ha.s hb.s hc.s⟩
/-! .. as tests -/
theorem ft_lt (ha : FE cls X W a ta fa) (hb : FE cls X W b tb fb) : FT cls X W (.Compare a [.Lt] [b] pos) (tTest (tOp (rI0 fun i j => .bl (decide (i < j))) ta tb)) (fTest (f2 dLt fa fb)) := ⟨pt_cmpR op_lt ha.p hb.p (nomark _), st_test (se_op (ops_cmp _) ha.s hb.s)⟩
theorem ft_le (ha : FE cls X W a ta fa) (hb : FE cls X W b tb fb) : FT cls X W (.Compare a [.LtE] [b] pos) (tTest (tOp (rI0 fun i j => .bl (decide (i ≤ j))) ta tb)) (fTest (f2 dLe fa fb)) := ⟨pt_cmpR op_le ha.p hb.p (nomark _), st_test (se_op (ops_cmp _) ha.s hb.s)⟩
theorem ft_gt (ha : FE cls X W a ta fa) (hb : FE cls X W b tb fb) : FT cls X W (.Compare a [.Gt] [b] pos) (tTest (tOp (rI0 fun i j => .bl (decide (j < i))) ta tb)) (fTest (f2 dGt fa fb)) := ⟨pt_cmpR op_gt ha.p hb.p (nomark _), st_test (se_op (ops_cmp _) ha.s hb.s)⟩
theorem ft_ge (ha : FE cls X W a ta fa) (hb : FE cls X W b tb fb) : FT cls X W (.Compare a [.GtE] [b] pos) (tTest (tOp (rI0 fun i j => .bl (decide (j ≤ i))) ta tb)) (fTest (f2 dGe fa fb)) := ⟨pt_cmpR op_ge ha.p hb.p (nomark _), st_test (se_op (ops_cmp _) ha.s hb.s)⟩
theorem ft_eq (hu : X.A.units + 64 < cLine) (ha : FE cls X W a ta fa) (hb : FE cls X W b tb fb) : FT cls X W (.Compare a [.Eq] [b] pos) (tTest (tOp (rEqAll X.K) ta tb)) (fTest (f2 (dEq false) fa fb)) := ⟨pt_cmpR (op_eqAll hu) ha.p hb.p (nomark _), st_test (se_op ops_eq ha.s hb.s)⟩
theorem ft_ne (hu : X.A.units + 64 < cLine) (ha : FE cls X W a ta fa) (hb : FE cls X W b tb fb) : FT cls X W (.Compare a [.NotEq] [b] pos) (tTest (tOp (rNeAll X.K) ta tb)) (fTest (f2 (dEq true) fa fb)) := ⟨pt_cmpR (op_neAll hu) ha.p hb.p (nomark _), st_test (se_op ops_ne ha.s hb.s)⟩
theorem ft_in (hu : X.A.units + 64 < cLine) (ha : FE cls X W a ta fa) (hb : FE cls X W b tb fb) (hm : behindInMarks .In b = false := by rfl) : FT cls X W (.Compare a [.In] [b] pos) (tTest (tOp (rInAll X.K false) ta tb)) (fTest (f2 (dIn false) fa fb)) := ⟨pt_cmpR (op_inAll (un1 hu)) ha.p hb.p hm, st_test (se_op ops_in ha.s hb.s)⟩
theorem ft_notin (hu : X.A.units + 64 < cLine) (ha : FE cls X W a ta fa) (hb : FE cls X W b tb fb) (hm : behindInMarks .NotIn b = false := by rfl) : FT cls X W (.Compare a [.NotIn] [b] pos) (tTest (tOp (rInAll X.K true) ta tb)) (fTest (f2 (dIn true) fa fb)) := ⟨pt_cmpR (op_notinAll (un1 hu)) ha.p hb.p hm, st_test (se_op ops_in ha.s hb.s)⟩
theorem ft_isN {j} (ha : FE cls X W a ta fa) : FT cls X W (.Compare a [.Is] [.Constant .none j p2] pos) (tTest (tOp (rIsN false) ta (tC .non))) (fTest (f1 (dIsN false) fa)) := ⟨pt_cmpR op_isN' ha.p pe_non (nomark _), st_test (se_isN ha.s)⟩
theorem ft_notN {j} (ha : FE cls X W a ta fa) : FT cls X W (.Compare a [.IsNot] [.Constant .none j p2] pos) (tTest (tOp (rIsN true) ta (tC .non))) (fTest (f1 (dIsN true) fa)) := ⟨pt_cmpR op_notN' ha.p pe_non (nomark _), st_test (se_isN ha.s)⟩
theorem ft_leLt (ha : FE cls X W a ta fa) (hb : FE cls X W b tb fb) (hc : FE cls X W c tc fc) (hm : lastMarks [.LtE, .Lt] [b, c] = false := by with_unfolding_all rfl) : FT cls X W (.Compare a [.LtE, .Lt] [b, c] pos) (tTest (tChain (rI0 fun i j => .bl (decide (i ≤ j))) (rI0 fun i j => .bl (decide (i < j))) ta tb tc)) (fTest (fChain dLe dLt fa fb fc)) :=
  ⟨pt_chain op_le op_lt ha.p hb.p hc.p hm, st_test (se_chain (ops_cmp _) (ops_cmp _) ha.s hb.s hc.s)⟩
theorem ft_leLe (ha : FE cls X W a ta fa) (hb : FE cls X W b tb fb) (hc : FE cls X W c tc fc) (hm : lastMarks [.LtE, .LtE] [b, c] = false := by with_unfolding_all rfl) : FT cls X W (.Compare a [.LtE, .LtE] [b, c] pos) (tTest (tChain (rI0 fun i j => .bl (decide (i ≤ j))) (rI0 fun i j => .bl (decide (i ≤ j))) ta tb tc)) (fTest (fChain dLe dLe fa fb fc)) :=
  ⟨pt_chain op_le op_le ha.p hb.p hc.p hm, st_test (se_chain (ops_cmp _) (ops_cmp _) ha.s hb.s hc.s)⟩
theorem ft_val (ha : FE cls X W e te fe) (he : ∀ whole, isTrue e X.env whole = (do let v ← whole; standAt e.pos; holding [v] (truthy v)) := by intro _; rfl) : FT cls X W e (L2.tB te) (fTest fe) := ⟨pt_val ha.p he, st_test ha.s⟩
theorem fw_and1 (ha : FT cls X W a tt p) : FW cls X W (.BoolOp .And [a] pos) tt p := ⟨pw_and1 ha.p, ha.s⟩
theorem fw_or1 (ha : FT cls X W a tt p) : FW cls X W (.BoolOp .Or [a] pos) tt p := ⟨pw_or1 ha.p, ha.s⟩
theorem fw_and (ha : FT cls X W a tt p) (hb : FW cls X W (.BoolOp .And (b :: es) pos) uu q) : FW cls X W (.BoolOp .And (a :: b :: es) pos) (tAnd tt uu) (fAndT p q) := ⟨pw_and ha.p hb.p, st_and ha.s hb.s⟩
theorem fw_or (ha : FT cls X W a tt p) (hb : FW cls X W (.BoolOp .Or (b :: es) pos) uu q) : FW cls X W (.BoolOp .Or (a :: b :: es) pos) (tOr tt uu) (fOrT p q) := ⟨pw_or ha.p hb.p, st_or ha.s hb.s⟩
theorem ft_w (ha : FW cls X W e tt p) : FT cls X W e tt p := ⟨ha.p.pt, ha.s⟩
theorem ft_not (ha : FT cls X W a tt p) : FT cls X W (.UnaryOp .Not a pos) (tNot tt) (fNotT p) := ⟨pt_not ha.p, st_not ha.s⟩
theorem fe_one {op} (ha : FE cls X W a ta fa) : FE cls X W (.BoolOp op [a] pos) ta fa := ⟨pe_one ha.p, ha.s⟩
theorem fe_and (ha : FE cls X W a ta fa) (hb : FE cls X W (.BoolOp .And (b :: es) pos) tb fb) : FE cls X W (.BoolOp .And (a :: b :: es) pos) (tAndV ta tb) (fAndV fa fb) := ⟨pe_and ha.p hb.p, se_andV ha.s hb.s⟩
theorem fe_or (ha : FE cls X W a ta fa) (hb : FE cls X W (.BoolOp .Or (b :: es) pos) tb fb) : FE cls X W (.BoolOp .Or (a :: b :: es) pos) (tOrV ta tb) (fOrV fa fb) := ⟨pe_or ha.p hb.p, se_orV ha.s hb.s⟩
theorem fe_not (ha : FE cls X W a ta fa) : FE cls X W (.UnaryOp .Not a pos) (tNotV ta) (fNotV fa) := ⟨pe_not ha.p, se_notV ha.s⟩
theorem fe_if (hc : FT cls X W c tt p) (ha : FE cls X W a ta fa) (hb : FE cls X W b tb fb) : FE cls X W (.IfExp c a b pos) (tIf tt ta tb) (fIf p fa fb) := ⟨pe_ifExp hc.p ha.p hb.p, se_if hc.s ha.s hb.s⟩
theorem fe_ix (hu : X.A.units + 64 < cLine) (ha : FE cls X W a ta fa) (hb : FE cls X W b tb fb) (hs : PlainIx b := by exact fun _ _ => rfl) : FE cls X W (.Subscript a b pos) (tOp (rIxAll X.K) ta tb) (f2 dIx fa fb) := ⟨pe_ix (ix_all (un1 hu)) ha.p hb.p hs, se_op ops_ix ha.s hb.s⟩
theorem fo_none : FO cls X W none tNoPart fNoPart := ⟨po_none, fun m F g H env os σ Q rl h => h.here rl.w rfl⟩
theorem fo_some (ha : FE cls X W e te fe) : FO cls X W (some e) (tPart te) (fPart fe) := ⟨po_some ha.p, fun m F g H env os σ Q rl h => ha.s m F g H env os σ _ rl (h.bind fun d g1 v m1 F1 H1 s1 w1 r1 h1 => by
  cases d <;> first | exact h1.elim | skip
  cases r1
  exact ⟨_, rfl, h1.here w1 rfl⟩)⟩
def rSlAll (K : PySem.W.Frag) : V → Option Int → Option Int → Hp → VK → Prop := fun x lo hi H Q => rSlL K x lo hi H Q ∨ rSlT K x lo hi H Q ∨ rSlT1 K x lo hi H Q ∨ rSlS x lo hi H Q
theorem sl_all : SlR X (rSlAll X.K) := sl_list.or (sl_tup.or (sl_tup1.or sl_str))
theorem cutV_rep {m : List Addr} {F : Hp} {xs : List V} {ds : List D} {lo hi : Option Int} (r : RepL K cls m F xs ds) : RepL K cls m F (cutV xs lo hi) (cutD ds lo hi) := by
  unfold cutV cutD
  rw [r.length]
  exact (r.drop _).take _
theorem sl_rep {m : List Addr} {F : Hp} {g : G} {H : Hp} {σ : L2.St} {x : V} {a : D} {lo hi : Option Int} {Q : VK} (w : World K cls m F g H) (r : Rep K cls m F x a) (h : Sat K cls W σ (Rep K cls) ⟨m, F, g, H⟩ (dSl a lo hi g) Q) : rSlAll K x lo hi H Q := by
  cases a <;> first | exact h.elim | skip
  · cases r
    simp only [dSl] at h
    split at h
    · rename_i hl
      exact .inr (.inr (.inr ⟨_, rfl, hl, h.here w (.str _)⟩))
    · exact h.elim
  · cases r with
    | tup c d =>
      rename_i pa us
      simp only [dSl] at h
      by_cases q : HT.sIx us.length 0 lo = 0 ∧ HT.sIx us.length us.length hi = us.length
      · refine .inr (.inr (.inl ⟨pa, us, rfl, sqT_mono w.fe c, q, ?_⟩))
        refine h.here w (.tup c ?_)
        rename_i xs
        have : cutD xs lo hi = xs := by
          unfold cutD
          rw [← d.length, q.1, q.2, List.drop_zero, Nat.sub_zero, d.length]
          exact List.take_length
        rw [this]
        exact d
      · exact .inr (.inl ⟨pa, us, rfl, sqT_mono w.fe c, q, fun p hp => h.new w hp (.tup sqT_new (RepL.mono (grow_new (w.hF hp)) _ _ (cutV_rep d)))⟩)
  · cases r with
    | lst c d => exact .inl ⟨_, _, rfl, SqL.of (w.fe _ _ c), fun p hp => h.new w hp (.lst upd_same (RepL.mono (grow_new (w.hF hp)) _ _ (cutV_rep d)))⟩
  · cases r with
    | scr c =>
      rename_i ns pa
      have hr : ∀ l : List Int, RepL K cls m F (l.map V.int) (l.map D.int) := fun l => by
        induction l with
        | nil => exact .nil
        | cons x l ih => exact .cons (.int x) ih
      exact .inl ⟨_, _, rfl, sqL_mono w.fe c, fun p hp => h.new w hp (.lst upd_same (RepL.mono (grow_new (w.hF hp)) _ _ (cutV_rep (hr ns))))⟩
theorem fe_slice {lo hi : Option Expr} {tl th : TO} {fl fh : Env → G → Res (Option Int)} (ha : FE cls X W e te fe) (hl : FO cls X W lo tl fl) (hh : FO cls X W hi th fh) : FE cls X W (.Subscript e (.Slice lo hi none p2) pos) (tSl (rSlAll X.K) te tl th) (fSlice fe fl fh) :=
  ⟨pe_slice sl_all ha.p hl.p hh.p, fun m F g H env os σ Q rl h => ha.s m F g H env os σ _ rl (h.bind fun a g1 x m1 F1 H1 s1 w1 r1 h1 => hl.s m1 F1 g1 H1 env os σ _ (rl.step s1 w1) (h1.bind fun lo' g2 lo'' m2 F2 H2 s2 w2 e2 h2 => hh.s m2 F2 g2 H2 env os σ _ ((rl.step s1 w1).step s2 w2) (h2.bind fun hi' g3 hi'' m3 F3 H3 s3 w3 e3 h3 => by
    subst e2 e3
    exact sl_rep w3 (Rep.mono (s2.trans s3).grow _ _ r1) h3)))⟩
theorem fa_nil : FA cls X W [] tNil fNilA := ⟨pa_nil, sa_nil⟩
theorem fa_cons (ha : FE cls X W e te fe) (hr : FA cls X W es tr gr) (hs : starEach (e :: es) X.env = (false, eval e X.env) :: starEach es X.env := by rfl) : FA cls X W (e :: es) (tCons te tr) (fConsA fe gr) := ⟨pa_cons ha.p hr.p hs, sa_cons ha.s hr.s⟩
theorem fe_tup {x1} (ha : FA cls X W es tA gA) : FE cls X W (.Tuple es x1 pos) (tTup tA) (fTup gA) := ⟨pe_tup ha.p, se_tup ha.s⟩
theorem fe_lst (ha : FA cls X W es tA gA) : FE cls X W (.List es pos) (tLst tA) (fLst gA) := ⟨pe_lst ha.p, se_lst ha.s⟩
/-! built-ins -/
theorem fe_blt {id : String} {r : List V → Hp → VK → Prop} {op : List D → G → Res D} (hc : CallR X (.builtin id) r) (hs : CallS X.K cls W r op) (hm : X.mg x = none) (hv : bootBuiltins x = some (.builtin id)) (ha : FA cls X W (e :: es) tA gA) (hg : Gl X x := by rfl) (hn : x ≠ "__name__" := by decide) (hdb : (x == ("__debug__" : Str)) = false := by decide)
    (he : starEach (e :: es) X.env = (false, eval e X.env) :: starEach es X.env := by rfl) (hpl : (backTo pos (starEach es X.env)).any (·.1) = false := by rfl) : FE cls X W (.Call (.Name x pp) (e :: es) [] pos) (tCB r tA) (fCall op gA) := ⟨pe_callB hc hg hm hv ha.p hn hdb he hpl, se_call hs ha.s⟩
theorem fe_typ {T : String} {r : List V → Hp → VK → Prop} {op : List D → G → Res D} (hc : CallR X (.type T) r) (hs : CallS X.K cls W r op) (hm : X.mg x = none) (hv : bootBuiltins x = some (.type T)) (ha : FA cls X W (e :: es) tA gA) (hg : Gl X x := by rfl) (hn : x ≠ "__name__" := by decide) (hdb : (x == ("__debug__" : Str)) = false := by decide)
    (he : starEach (e :: es) X.env = (false, eval e X.env) :: starEach es X.env := by rfl) (hpl : (backTo pos (starEach es X.env)).any (·.1) = false := by rfl) : FE cls X W (.Call (.Name x pp) (e :: es) [] pos) (tCB r tA) (fCall op gA) := ⟨pe_callTy hc hg hm hv ha.p hn hdb he hpl, se_call hs ha.s⟩
theorem bt_len : bootBuiltins "len" = some (.builtin "len") := by decide +kernel
theorem bt_abs : bootBuiltins "abs" = some (.builtin "abs") := by decide +kernel
theorem bt_all : bootBuiltins "all" = some (.builtin "all") := by decide +kernel
theorem bt_any : bootBuiltins "any" = some (.builtin "any") := by decide +kernel
theorem bt_max : bootBuiltins "max" = some (.builtin "max") := by decide +kernel
theorem bt_min : bootBuiltins "min" = some (.builtin "min") := by decide +kernel
theorem bt_isi : bootBuiltins "isinstance" = some (.builtin "isinstance") := by decide +kernel
theorem bt_int : bootBuiltins "int" = some (.type "int") := by decide +kernel
theorem bt_str : bootBuiltins "str" = some (.type "str") := by decide +kernel
theorem bt_bool : bootBuiltins "bool" = some (.type "bool") := by decide +kernel
theorem bt_list : bootBuiltins "list" = some (.type "list") := by decide +kernel
theorem bt_tuple : bootBuiltins "tuple" = some (.type "tuple") := by decide +kernel
theorem bt_dict : bootBuiltins "dict" = some (.type "dict") := by decide +kernel
theorem fe_isi1 {n : String} {x2 : Str} {p3 : Pos} (hn : n ∈ tyNames) (hm : X.mg "isinstance" = none) (hm2 : X.mg x2 = none) (hv : bootBuiltins x2 = some (.type n)) (ha : FE cls X W e te fe) (hg : Gl X "isinstance" := by rfl) (hg2 : Gl X x2 := by rfl) (hn2 : x2 ≠ "__name__" := by decide) (hd2 : (x2 == ("__debug__" : Str)) = false := by decide)
    (he : starEach (e :: [.Name x2 p3]) X.env = (false, eval e X.env) :: starEach [.Name x2 p3] X.env := by rfl) (hpl : (backTo pos (starEach [.Name x2 p3] X.env)).any (·.1) = false := by rfl) :
    FE cls X W (.Call (.Name "isinstance" pp) [e, .Name x2 p3] [] pos) (tCB (rIsi X.K) (tCons te (tCons (tC (.ty n)) tNil))) (f1 (dIsi [n]) fe) :=
  ⟨pe_callB call_isi hg hm bt_isi (pa_cons ha.p (pa_cons (pe_bltn (v := .ty n) hg2 hm2 hv rfl hn2 hd2) pa_nil) he) (by decide) (by decide) he hpl, se_isi1 hn ha.s⟩
theorem fe_isiT {ns : List String} {x1} {p3 : Pos} (hn : ∀ n ∈ ns, n ∈ tyNames) (hl : ns.length ≤ 16) (hm : X.mg "isinstance" = none) (ht : PA X es (tTys ns)) (ha : FE cls X W e te fe) (hg : Gl X "isinstance" := by rfl)
    (he : starEach (e :: [.Tuple es x1 p3]) X.env = (false, eval e X.env) :: starEach [.Tuple es x1 p3] X.env := by rfl) (hpl : (backTo pos (starEach [.Tuple es x1 p3] X.env)).any (·.1) = false := by rfl) :
    FE cls X W (.Call (.Name "isinstance" pp) [e, .Tuple es x1 p3] [] pos) (tCB (rIsiT X.K) (tCons te (tCons (tTup (tTys ns)) tNil))) (f1 (dIsi ns) fe) :=
  ⟨pe_callB call_isiT hg hm bt_isi (pa_cons ha.p (pa_cons (pe_tup ht) pa_nil) he) (by decide) (by decide) he hpl, se_isiT hn hl ha.s⟩
/-! targets, what is walked -/
theorem fg_name (i : Nat) (hN : X.N.Nodup) (hi : X.N[i]? = some x := by rfl) (hx : Loc X.env.scope x := by exact Or.inl rfl) (hf : X.fn x = true ∨ X.env.scope.names.lookup x = some .local := by first | exact .inl rfl | exact .inr rfl) : FG cls X (.Name x pos) [i] (gName i) (gSet i) := ⟨pg_name hN hi hx hf, sg_name i⟩
theorem fgs_nil : FGs cls X [] [] gNil gNils := ⟨pgs_nil, sgs_nil⟩
theorem fgs_cons {ix jx : List Nat} {t : TG} {u : TGs} {f : D → G → Env → Option Env} {r : List D → G → Env → Option Env} (h1 : FG cls X e ix t f) (h2 : FGs cls X es jx u r) (hs : (assignEach (e :: es) X.env).map (·.2) = assign e X.env :: (assignEach es X.env).map (·.2) := by rfl) : FGs cls X (e :: es) (ix ++ jx) (gCons t u) (gConss f r) :=
  ⟨pgs_cons h1.p h2.p hs, sgs_cons h1.s h2.s⟩
theorem fg_tup {ix : List Nat} {k n : Nat} {u : TGs} {r : List D → G → Env → Option Env} (hc : X.calm = true) (h : FGs cls X es ix u r) (hn : (assignEach es X.env).length = n := by rfl) (hst : (assignEach es X.env).findIdx? (·.1) = none := by rfl) : FG cls X (.Tuple es k pos) ix (gTup X.K n u) (gTupF r n) :=
  ⟨pg_tup hc h.p hn hst, sg_tup h.s⟩
theorem fg_star {ix : List Nat} {es' : List Expr} {k n i : Nat} {u : TGs} {r : List D → G → Env → Option Env} (hc : X.calm = true) (h : FGs cls X es' ix u r) (hin : i < n) (hn : (assignEach es X.env).length = n := by rfl) (hst : (assignEach es X.env).findIdx? (·.1) = some i := by rfl) (hs : (assignEach es X.env).map (·.2) = (assignEach es' X.env).map (·.2) := by rfl) :
    FG cls X (.Tuple es k pos) ix (gStar X.K n i u) (gStarF r n i) := ⟨pg_star hc h.p hin hn hst hs, sg_star h.s⟩
theorem fi_list {tg : Expr} (ha : FE cls X W e te fe) : FI cls X W tg e (iList X.K te) (fList fe) := ⟨pi_list ha.p, si_list ha.s⟩
theorem fi_tup {tg : Expr} (ha : FE cls X W e te fe) : FI cls X W tg e (iTup X.K te) (fTupl fe) := ⟨pi_tup ha.p, si_tup ha.s⟩
def fSeqI (fa : Env → G → Res D) : Env → G → Res (List D) := fun env g => (fa env g).bind fun d g1 => match d with
  | .lst xs => .ok xs g1
  | .scr ns => .ok (ns.map D.int) g1
  | .tup xs => .ok xs g1
  | _ => .stuck
theorem pi_or {tg iter : Expr} {w1 w2 : TI} (h1 : PI X tg iter w1) (h2 : PI X tg iter w2) : PI X tg iter (fun σ H R => w1 σ H R ∨ w2 σ H R) :=
  ⟨fun pins s σ H R I h => h.elim (h1.run pins s σ H R I) (h2.run pins s σ H R I)⟩
/-- a list or a tuple -/
theorem fi_seq {tg : Expr} (ha : FE cls X W e te fe) : FI cls X W tg e (fun σ H R => iList X.K te σ H R ∨ iTup X.K te σ H R) (fSeqI fe) :=
  ⟨pi_or (pi_list ha.p) (pi_tup ha.p), fun m F g H env os σ R rl h => by
    by_cases q : ∃ xs g1, fe env g = .ok (.tup xs) g1
    · obtain ⟨xs, g1, q⟩ := q
      refine .inr (si_tup ha.s m F g H env os σ R rl ?_)
      unfold fSeqI at h
      unfold fTupl
      rw [q] at h ⊢
      exact h
    · refine .inl (si_list ha.s m F g H env os σ R rl ?_)
      unfold fSeqI at h
      unfold fList
      cases e : fe env g with
      | ok d g1 =>
        rw [e] at h
        cases d <;> first | exact h | skip
        exact absurd ⟨_, _, e⟩ q
      | exc x g1 => rw [e] at h; exact h
      | stuck => rw [e] at h; exact h⟩
theorem fi_range1 {tg : Expr} (hm : X.mg "range" = none) (ha : FA cls X W [a] tA gA) (hg : Gl X "range" := by rfl) (hs : starEach [a] X.env = [(false, eval a X.env)] := by rfl) : FI cls X W tg (.Call (.Name "range" pp) [a] [] pos) (iRng1 tA) (fRange1 gA) := ⟨pi_range1 hg hm ha.p hs, si_range1 ha.s⟩
theorem fi_range2 {tg : Expr} (hm : X.mg "range" = none) (ha : FA cls X W [a, b] tA gA) (hg : Gl X "range" := by rfl) (hs : starEach [a, b] X.env = [(false, eval a X.env), (false, eval b X.env)] := by rfl) (hs2 : starEach [b] X.env = [(false, eval b X.env)] := by rfl) : FI cls X W tg (.Call (.Name "range" pp) [a, b] [] pos) (iRng2 tA) (fRange2 gA) := ⟨pi_range2 hg hm ha.p hs hs2, si_range2 ha.s⟩
theorem fts_nil : FTs cls X W [] tYes fYes := ⟨pts_nil, fun m F g H env os σ Q rl h => h.here rl.w rfl⟩
theorem fts_one (h : FT cls X W e tt p) : FTs cls X W [e] tt p := ⟨pts_one h.p, h.s⟩
/-! comprehensions -/
/-- whatever block: a reading by the block's data -/
abbrev Blk (α : Type) := Shared → Hp → Addr → List (Str × Addr) → List Addr → α
def allE (t : Blk TE) : TE := fun σ H Q => ∀ s h C cl fp, t s h C cl fp σ H Q
def allT (t : Blk TT) : TT := fun σ H Q => ∀ s h C cl fp, t s h C cl fp σ H Q
def allG (t : Blk TG) : TG := fun v σ H Q => ∀ s h C cl fp, t s h C cl fp v σ H Q
theorem sall_e {t : Blk TE} (h : ∀ s H C cl fp, SE K cls W (t s H C cl fp) fe) : SE K cls W (allE t) fe := fun m F g H env os σ Q rl q s h' C cl fp => h s h' C cl fp m F g H env os σ Q rl q
theorem sall_t {t : Blk TT} (h : ∀ s H C cl fp, ST K cls W (t s H C cl fp) p) : ST K cls W (allT t) p := fun m F g H env os σ Q rl q s h' C cl fp => h s h' C cl fp m F g H env os σ Q rl q
theorem sall_g {t : Blk TG} {ix : List Nat} {ft : D → G → Env → Option Env} (h : ∀ s H C cl fp, SG K cls ix (t s H C cl fp) ft) : SG K cls ix (allG t) ft := fun m F g H env os σ v d Q rl r q s h' C cl fp => h s h' C cl fp m F g H env os σ v d Q rl r q
theorem fe_lc {elt tg iter : Expr} {ifs : List Expr} {scope : Scope} {own : List (Str × Nat)} {wi : TI} {fi : Env → G → Res (List D)} {g : Blk TG} {tt : Blk TT} {te : Blk TE} {ft : D → G → Env → Option Env} {fif : Env → G → Res Bool} {ix : List Nat} (hc : X.calm = true) (hN : X.N.Nodup) (hi : FI cls X W tg iter wi fi) (ok : BlkOk X.N X.env.scope scope own)
    (hg : ∀ (s : Shared) (H : Hp) (C : Addr) (cl : List (Str × Addr)) (fp : List Addr), FG cls (X.blk s H scope (compEnvC scope cl C X.env) fp) tg ix (g s H C cl fp) ft) (ht : ∀ (s : Shared) (H : Hp) (C : Addr) (cl : List (Str × Addr)) (fp : List Addr), FTs cls (X.blk s H scope (compEnvC scope cl C X.env) fp) W0 ifs (tt s H C cl fp) fif)
    (he : ∀ (s : Shared) (H : Hp) (C : Addr) (cl : List (Str × Addr)) (fp : List Addr), FE cls (X.blk s H scope (compEnvC scope cl C X.env) fp) W0 elt (te s H C cl fp) fe) (hx : ∀ j ∈ ix, j ∈ own.map (·.2)) (hs : ∀ x, foldedSetIterable iter X.env x = pure x := by intro _; rfl) :
    FE cls X W (.ListComp elt [⟨tg, iter, ifs, 0⟩] scope pos) (tLc wi (allG g) (allT tt) (allE te) (own.map (·.2))) (fLc fi ft fif fe (own.map (·.2))) :=
  ⟨pe_lc hc hN hi.p ok (fun s H C cl fp => ⟨fun pins s1 σ H1 v u Q I r q => (hg s H C cl fp).p.run pins s1 σ H1 v u Q I r (q s H C cl fp)⟩) (fun s H C cl fp => ⟨fun pins s1 σ H1 Q I q => (ht s H C cl fp).p.run pins s1 σ H1 Q I (q s H C cl fp)⟩) (fun s H C cl fp => ⟨fun pins s1 σ H1 Q I q => (he s H C cl fp).p.run pins s1 σ H1 Q I (q s H C cl fp)⟩) hs,
    se_lc hi.s (sall_g fun s H C cl fp => (hg s H C cl fp).s) (sall_t fun s H C cl fp => (ht s H C cl fp).s) (sall_e fun s H C cl fp => (he s H C cl fp).s) hx⟩
/-! statements -/
variable {st : Stmt} {sts : List Stmt} {t u : TS} {f1 f2 : Env → G → SRes}
theorem fss_nil : FSs cls X W [] tNext fNext := ⟨pss_nil, ss_next⟩
theorem fss_cons (h1 : FS cls X W st t f1) (h2 : FSs cls X W sts u f2) : FSs cls X W (st :: sts) (tSeq t u) (fSeq f1 f2) := ⟨pss_cons h1.p h2.p, ss_seq h1.s h2.s⟩
theorem fss_one (h1 : FS cls X W st t f1) : FSs cls X W [st] t f1 := ⟨pss_one h1.p, h1.s⟩
theorem fss_frz (i : Nat) (h : FSs cls X W sts t f1) : FSs cls X W sts t (fFrz i f1) := ⟨h.p, ss_frz h.s⟩
theorem fs_pass : FS cls X W (.Pass pos) tNext fNext := ⟨ps_pass, ss_next⟩
theorem fs_expr (h : FE cls X W e te fe) (hs : swapsWith e none pos.line X.env = pure false := by rfl) : FS cls X W (.Expr e pos) (tDrop te) (fExpr fe) := ⟨ps_expr h.p hs, ss_expr h.s⟩
theorem fs_ret (h : FE cls X W e te fe) : FS cls X W (.Return (some e) pos) (tRet te) (fRet fe) := ⟨ps_ret h.p, ss_ret h.s⟩
theorem fs_retN : FS cls X W (.Return none pos) tRetN fRetN := ⟨ps_retN, ss_retN⟩
theorem fs_if {cc : Expr} (hc : FT cls X W cc tt p) (h1 : FSs cls X W sts t f1) {els : List Stmt} (h2 : FSs cls X W els u f2) : FS cls X W (.If cc sts els pos) (tIfS tt t u) (fIfS p f1 f2) := ⟨ps_if hc.p h1.p h2.p, ss_if hc.s h1.s h2.s⟩
theorem fs_set (i : Nat) (hN : X.N.Nodup) (h : FE cls X W e te fe) (hi : X.N[i]? = some x := by rfl) (hx : Loc X.env.scope x := by first | exact Or.inl rfl | exact Or.inr rfl) (hs : swapsWith e (some (.Name x pp)) pos.line X.env = pure false := by rfl) (hf : X.fn x = true ∨ X.env.scope.names.lookup x = some .local := by first | exact .inl rfl | exact .inr rfl) :
    FS cls X W (.Assign [.Name x pp] e pos) (tAsg te (gName i)) (fAsg fe (gSet i)) := ⟨ps_set hN hi hx h.p hs hf, ss_asg h.s (sg_name i)⟩
theorem fs_asg {tg : Expr} {ix : List Nat} {g : TG} {ft : D → G → Env → Option Env} (h : FE cls X W e te fe) (hg : FG cls X tg ix g ft) (hs : swapsWithSole [tg] e pos.line X.env = pure false := by rfl) (hw : swappedStores [tg] e X.env = pure none := by rfl)
    (h1 : (assignEach [tg] X.env).map (·.2) = [assign tg X.env] := by rfl) : FS cls X W (.Assign [tg] e pos) (tAsg te g) (fAsg fe ft) := ⟨ps_asg h.p hg.p hs hw h1, ss_asg h.s hg.s⟩
theorem fs_store (hu : X.A.units + 64 < cLine) {tpos : Pos} (h : FE cls X W e te fe) (ho : FE cls X W o ta fa) (hi : FE cls X W i tb fb) (hs : swapsWithSole [.Subscript o i tpos] e pos.line X.env = pure false := by rfl) (hw : swappedStores [.Subscript o i tpos] e X.env = pure none := by rfl)
    (h1 : (assignEach [.Subscript o i tpos] X.env).map (·.2) = [assign (.Subscript o i tpos) X.env] := by rfl)
    (ha : ∀ v, assign (.Subscript o i tpos) X.env v = (do
      let ov ← holding [v] (eval o X.env)
      let iv ← holding [v, ov] (eval i X.env)
      standAt tpos
      holding [v, ov, iv] (setItem ov iv v)
      release [v, ov, iv] []) := by intro _; rfl) : FS cls X W (.Assign [.Subscript o i tpos] e pos) (tAsg te (gSub ta tb rSetAll)) (fStore fe fa fb) := ⟨ps_asg h.p (pg_sub ho.p hi.p (set_all (un1 hu)) ha) hs hw h1, ss_store h.s ho.s hi.s⟩
theorem fs_setL (i : Nat) (hN : X.N.Nodup) {p3 : Pos} (h : FA cls X W es tA gA) (hi : X.N[i]? = some x := by rfl) (hx : Loc X.env.scope x := by first | exact Or.inl rfl | exact Or.inr rfl) (hs : swapsWith (.List es p3) (some (.Name x pp)) pos.line X.env = pure false := by rfl) (hf : X.fn x = true ∨ X.env.scope.names.lookup x = some .local := by first | exact .inl rfl | exact .inr rfl) :
    FS cls X W (.Assign [.Name x pp] (.List es p3) pos) (tAsg (tLst tA) (gName i)) (fSetL gA i) := ⟨ps_set hN hi hx (pe_lst h.p) hs hf, ss_setL h.s⟩
theorem fs_for {tg iter : Expr} {wi : TI} {fi : Env → G → Res (List D)} {ix : List Nat} {g : TG} {ft : D → G → Env → Option Env} (hp : PassesOwn (model X.prog X.w) X.A X.env X.xe) (hc : X.calm = true) (hi : FI cls X W tg iter wi fi) (hg : FG cls X tg ix g ft) (hb : FSs cls X W sts t f1)
    (hs : ∀ x, foldedSetIterable iter X.env x = pure x := by intro _; rfl) : FS cls X W (.For tg iter sts [] pos) (tFor wi g t) (fFor fi ft f1) := ⟨ps_for hp hc hi.p hg.p hb.p hs, ss_for hi.s hg.s hb.s⟩
theorem fs_while (n : Nat) {cc : Expr} (hp : PassesOwn (model X.prog X.w) X.A X.env X.xe) (hc : FT cls X W cc tt p) (hb : FSs cls X W sts t f1) : FS cls X W (.While cc sts [] pos) (tWhile tt t) (whileF p f1 n) := ⟨ps_while hp hc.p hb.p, ss_while n hc.s hb.s⟩
theorem fs_setLc {i : Nat} {y : Str} {py spos : Pos} {elt tg iter : Expr} {ifs : List Expr} {scope : Scope} {own : List (Str × Nat)} {wi : TI} {fi : Env → G → Res (List D)} {g : Blk TG} {tt : Blk TT} {te : Blk TE} {ft : D → G → Env → Option Env} {fif : Env → G → Res Bool} {ix : List Nat} (hc : X.calm = true) (hN : X.N.Nodup)
    (hsw : swapsWith (.ListComp elt [⟨tg, iter, ifs, 0⟩] scope pos) (some (.Name y py)) spos.line X.env = pure true) (hi : FI cls X W tg iter wi fi) (ok : BlkOk X.N X.env.scope scope own)
    (hg : ∀ (s : Shared) (H : Hp) (C : Addr) (cl : List (Str × Addr)) (fp : List Addr), FG cls (X.blk s H scope (compEnvC scope cl C X.env) fp) tg ix (g s H C cl fp) ft) (ht : ∀ (s : Shared) (H : Hp) (C : Addr) (cl : List (Str × Addr)) (fp : List Addr), FTs cls (X.blk s H scope (compEnvC scope cl C X.env) fp) W0 ifs (tt s H C cl fp) fif)
    (he : ∀ (s : Shared) (H : Hp) (C : Addr) (cl : List (Str × Addr)) (fp : List Addr), FE cls (X.blk s H scope (compEnvC scope cl C X.env) fp) W0 elt (te s H C cl fp) fe) (hx : ∀ j ∈ ix, j ∈ own.map (·.2)) (hy : X.N[i]? = some y := by rfl) (hyl : X.env.scope.names.lookup y = some .local := by rfl) (hs : ∀ x, foldedSetIterable iter X.env x = pure x := by intro _; rfl) :
    FS cls X W (.Assign [.Name y py] (.ListComp elt [⟨tg, iter, ifs, 0⟩] scope pos) spos) (tAsg (tLc wi (allG g) (allT tt) (allE te) (own.map (·.2))) (gName i)) (fAsg (fLc fi ft fif fe (own.map (·.2))) (gSet i)) :=
  ⟨ps_setLc hc hN hy hyl hsw hi.p ok (fun s H C cl fp => ⟨fun pins s1 σ H1 v u Q I r q => (hg s H C cl fp).p.run pins s1 σ H1 v u Q I r (q s H C cl fp)⟩) (fun s H C cl fp => ⟨fun pins s1 σ H1 Q I q => (ht s H C cl fp).p.run pins s1 σ H1 Q I (q s H C cl fp)⟩) (fun s H C cl fp => ⟨fun pins s1 σ H1 Q I q => (he s H C cl fp).p.run pins s1 σ H1 Q I (q s H C cl fp)⟩) hs,
    ss_asg (se_lc hi.s (sall_g fun s H C cl fp => (hg s H C cl fp).s) (sall_t fun s H C cl fp => (ht s H C cl fp).s) (sall_e fun s H C cl fp => (he s H C cl fp).s) hx) (sg_name i)⟩
theorem ss_par {i j : Nat} (ha : SA K cls W tA gA) : SS K cls W (tPar i j tA) (fPar i j gA) := fun B D m F g H env os σ rl h => by
  have h2 : SatS K cls W B m F D (match gA env g with
    | .ok ds g1 => (match ds with
      | [a, b] => if i < env.length ∧ j < env.length then .next ((env.set i (.val a)).set j (.val b)) g1 else .stuck
      | _ => .stuck)
    | .exc x g1 => .exc x env g1
    | .stuck => .stuck) := by
    unfold fPar at h
    cases e : gA env g with
    | ok ds g1 =>
      simp only [e] at h
      match ds, h with
      | [a, b], h => exact h
      | [], h => exact h
      | [_], h => exact h
      | _ :: _ :: _ :: _, h => exact h
    | exc x g1 => simp only [e] at h; exact h
    | stuck => simp only [e] at h; exact h
  refine ha m F g H env os σ _ rl.r (sat_a (k := fun ds g1 => match ds with
    | [a, b] => if i < env.length ∧ j < env.length then .next ((env.set i (.val a)).set j (.val b)) g1 else .stuck
    | _ => .stuck) rl h2 fun ds g1 vs m1 F1 H1 s r1 q h1 => ?_)
  split at h1
  · obtain ⟨x, y, rfl, q1, q2⟩ := repL2 q
    split at h1
    · rename_i hl
      refine ⟨x, y, rfl, h1 m1 F1 H1 _ _ (Grow.refl _ _) ⟨(r1.r.set q1 hl.1).set q2 (by simpa using hl.2), r1.st, fun a l e => ?_⟩⟩
      have e' : (if a = j then none else if a = i then none else os a) = some l := e
      split at e'
      · cases e'
      · split at e'
        · cases e'
        · exact r1.own a l e'
    · exact h1.elim
  · exact h1.elim
theorem fs_par (i j : Nat) {y : Str} {px py pt : Pos} {kt k2 : Nat} {pt2} (hc : X.calm = true) (hN : X.N.Nodup) (ha : FA cls X W [a, b] tA gA) (hij : i ≠ j) (hi : X.N[i]? = some x := by rfl) (hj : X.N[j]? = some y := by rfl)
    (hx : X.env.scope.names.lookup x = some .local := by rfl) (hy : X.env.scope.names.lookup y = some .local := by rfl)
    (hw : swappedStores [.Tuple [.Name x px, .Name y py] kt pt] (.Tuple [a, b] k2 pt2) X.env = pure (some [x, y]) := by rfl)
    (hs : swapsWithSole [.Tuple [.Name x px, .Name y py] kt pt] (.Tuple [a, b] k2 pt2) pos.line X.env = pure false := by rfl) :
    FS cls X W (.Assign [.Tuple [.Name x px, .Name y py] kt pt] (.Tuple [a, b] k2 pt2) pos) (tPar i j tA) (fPar i j gA) := ⟨ps_par hc hN hi hj hij hx hy ha.p hw hs, ss_par ha.s⟩
end
end FL

namespace FL
open PySem PySem.Spec PyProof.Rows L2 FR

/-! ### zip and enumerate over lists and tuples alike -/
def SqB (K : PySem.W.Frag) : Bool → Hp → Addr → List V → Prop
  | false, H, a, xs => SqL K H a xs
  | true, H, a, xs => SqT K H a xs
def IterB : Bool → Heap → Addr → Addr → Nat → Prop
  | false, h, it, a, i => h.IsListIter it a i
  | true, h, it, a, i => h.IsTupleIter it a i
def IsB : Bool → Heap → Addr → Array Value → Prop
  | false, h, a, its => h.IsList a its
  | true, h, a, its => h.IsTuple a its
def itO : Bool → Addr → Obj
  | false, l => { cls := .type "list_iterator", data := .fields #[.ref l, .int 0 0] }
  | true, l => { cls := .type "tuple_iterator", data := .fields #[.ref l, .int 0 0] }
theorem drawsB {prog : Program} {w : PySem.World} {A : Around} (hh : A.handled = none) : ∀ (b : Bool) (it l : Addr), l ≠ it → ∀ items : Array Value, Draws prog w A it [it, l] items.size (fun i v => items[i]? = some v) (fun i h => IterB b h it l i ∧ IsB b h l items)
  | false, it, l, hne, items => Draws.list hh it l hne items
  | true, it, l, hne, items => Draws.tuple hh it l hne items
theorem beginsB : ∀ (b : Bool) (l : Addr) (items : Array Value), Begins (.ref l) (itO b l) fun h => IsB b h l items
  | false, l, items => begins_list l items
  | true, l, items => begins_tuple l items
theorem iterB_new {b : Bool} {h : Heap} {it l : Addr} (e : h.get? it = some (itO b l)) : IterB b h it l 0 := by
  cases b <;> exact ⟨_, e, rfl, rfl⟩
theorem iterB_obj {b : Bool} {h : Heap} {it l : Addr} {i : Nat} (x : IterB b h it l i) : ∃ o, h.get? it = some o ∧ ∀ v, o.data ≠ .cell v := by
  cases b with
  | false => obtain ⟨o, e, _, d⟩ := x; exact ⟨o, e, fun v z => by rw [d] at z; cases z⟩
  | true => obtain ⟨o, e, _, d⟩ := x; exact ⟨o, e, fun v z => by rw [d] at z; cases z⟩
theorem iterB_at {b : Bool} {h h' : Heap} {it l : Addr} {i : Nat} (x : IterB b h it l i) (e : ∀ o, h.get? it = some o → h'.get? it = some o) : IterB b h' it l i := by
  cases b with
  | false => exact Heap.IsListIter.at x e
  | true => exact Heap.IsTupleIter.at x e
section
variable {X : Cx} {pins : List (Addr × Obj)} {σ : L2.St} {H : Hp} {s : Shared} {a : Addr} {xs ys : List V}
theorem Inv.sq {b : Bool} (I : Inv X pins σ H s) (h : SqB X.K b H a xs) : ∃ its : List Value, Vals xs its ∧ IsB b s.heap a its.toArray ∧ a < s.heap.objs.size := by
  cases b with
  | false => obtain ⟨its, r, p, _⟩ := I.list h; exact ⟨its, r, p.isList, p.lt⟩
  | true =>
    obtain ⟨its, r, p, _⟩ := I.tuple h
    obtain ⟨o, e, c⟩ := p
    exact ⟨its, r, ⟨o, e, c⟩, Heap.lt_size e⟩
theorem Inv.sq_inj {b : Bool} (I : Inv X pins σ H s) (h : SqB X.K b H a xs) (h' : SqB X.K b H a ys) : xs = ys := by
  cases b with
  | false => exact I.list_inj h h'
  | true => exact I.tuple_inj h h'
end
/-- the sequences at a and b as they stand at each turn, the items in new pairs -/
def ItzB (K : PySem.W.Frag) (p q : Bool) (a b : Addr) : It :=
  ⟨fun i H => ∃ (xs ys : List V) (x y : V), SqB K p H a xs ∧ SqB K q H b ys ∧ xs[i]? = some x ∧ ys[i]? = some y,
    fun i H v H' => ∃ T x y, v = .ref T ∧ H T = none ∧ H' = upd H T (.tup [x, y]) ∧ (∀ xs, SqB K p H a xs → xs[i]? = some x) ∧ ∀ ys, SqB K q H b ys → ys[i]? = some y,
    fun i H => ∃ xs ys : List V, SqB K p H a xs ∧ SqB K q H b ys ∧ (i = xs.length ∧ i ≤ ys.length ∨ i ≤ xs.length ∧ i = ys.length)⟩
theorem turn_zipB {P : Program} {w : PySem.World} {K : PySem.W.Frag} {elts : List Expr} {kk : Nat} {tpos : Pos} {p q : Bool} {a b z TI TO i1 i2 : Addr} (D : ZipSep2 z TI TO i1 i2 [i1, a] [i2, b]) :
    Turn P w K (.Tuple elts kk tpos) (ItzB K p q a b) [z, TI, TO, i1, i2] z (fun i h => IsZip h z TI TO .none ∧ IsTupOf2 h TI (.ref i1) (.ref i2) ∧ (∃ x y, IsTupOf2 h TO x y) ∧ IterB p h i1 a i ∧ IterB q h i2 b i) where
  mem := by simp
  obj := fun i h st c hc => by
    obtain ⟨hz, hTI, ⟨x, y, hTO⟩, h1, h2⟩ := st
    have e' : c = z ∨ c = TI ∨ c = TO ∨ c = i1 ∨ c = i2 := by simpa using hc
    rcases e' with q | q | q | q | q
    · rw [q]; exact ⟨_, hz, fun v q => nomatch q⟩
    · rw [q]; exact ⟨_, hTI, fun v q => nomatch q⟩
    · rw [q]; exact ⟨_, hTO, fun v q => nomatch q⟩
    · rw [q]; exact iterB_obj h1
    · rw [q]; exact iterB_obj h2
  keep := fun i h h' st k => by
    obtain ⟨hz, hTI, ⟨x, y, hTO⟩, h1, h2⟩ := st
    exact ⟨k z (by simp) _ hz, k TI (by simp) _ hTI, ⟨x, y, k TO (by simp) _ hTO⟩, iterB_at h1 fun o q => k i1 (by simp) o q, iterB_at h2 fun o q => k i2 (by simp) o q⟩
  item := by
    intro X hP hw hK hc i pins s σ H E I hf st hg
    subst hP hw hK
    obtain ⟨hz, hTI, ⟨x0, y0, hTO⟩, h1, h2⟩ := st
    obtain ⟨xs, ys, x, y, hqx, hqy, hx, hy⟩ := hg
    obtain ⟨its, rv, pp, _⟩ := Inv.sq I hqx
    obtain ⟨its2, rv2, pp2, _⟩ := Inv.sq I hqy
    obtain ⟨u, hu, ru⟩ := rv.get hx
    obtain ⟨u2, hu2, ru2⟩ := rv2.get hy
    have hzl : z < s.heap.objs.size := Heap.lt_size hz
    have l1 : i < its.toArray.size := by rw [List.size_toArray]; exact (List.getElem?_eq_some_iff.mp hu).1
    have l2 : i < its2.toArray.size := by rw [List.size_toArray]; exact (List.getElem?_eq_some_iff.mp hu2).1
    have hh : X.A.in1.handled = none := I.ok.hd hc
    have na : a ≠ i1 := fun e => by
      cases p with
      | false =>
        obtain ⟨o1, e1, c1, d1⟩ := h1
        obtain ⟨_, _, pl, _⟩ := I.list hqx
        obtain ⟨o, n, e2, c2, _⟩ := pl
        rw [e] at e2
        rw [e1] at e2; cases e2
        rw [c1] at c2
        simp at c2
      | true =>
        obtain ⟨o1, e1, c1, d1⟩ := h1
        obtain ⟨_, _, pl, _⟩ := I.tuple hqx
        obtain ⟨o, e2, c2, _⟩ := pl
        rw [e] at e2
        rw [e1] at e2; cases e2
        rw [c1] at c2
        simp at c2
    have nb : b ≠ i2 := fun e => by
      cases q with
      | false =>
        obtain ⟨o1, e1, c1, d1⟩ := h2
        obtain ⟨_, _, pl, _⟩ := I.list hqy
        obtain ⟨o, n, e2, c2, _⟩ := pl
        rw [e] at e2
        rw [e1] at e2; cases e2
        rw [c1] at c2
        simp at c2
      | true =>
        obtain ⟨o1, e1, c1, d1⟩ := h2
        obtain ⟨_, _, pl, _⟩ := I.tuple hqy
        obtain ⟨o, e2, c2, _⟩ := pl
        rw [e] at e2
        rw [e1] at e2; cases e2
        rw [c1] at c2
        simp at c2
    refine wpAny_pyNext_zipD2_item D (drawsB hh p i1 a na its.toArray) (drawsB hh q i2 b nb its2.toArray) hz hTI hTO ⟨h1, pp⟩ ⟨h2, pp2⟩ l1 l2 fun w1 w2 h' tk e1 e2 z' TO' h1' h2' hT hsz hk => ?_
    have w1u : w1 = u := by
      have : its.toArray[i]? = some u := by simpa using hu
      rw [this] at e1; exact (Option.some.inj e1).symm
    have w2u : w2 = u2 := by
      have : its2.toArray[i]? = some u2 := by simpa using hu2
      rw [this] at e2; exact (Option.some.inj e2).symm
    subst w1u w2u
    refine ⟨_, rfl, wpAny_letOwnedTupleGo_zip (s := { s with heap := h', toks := tk }) z' fun h'' z'' sb => ?_⟩
    have hT2 : h''.get? s.heap.objs.size = some { cls := .type "tuple", data := .seq #[w1, w2] } := (sb.2 _ (Nat.ne_of_gt hzl)).trans hT
    have new : ObjOk X.prog X.w (upd H s.heap.objs.size (.tup [x, y])) h'' s.heap.objs.size (.tup [x, y]) :=
      ⟨by show 2 ≤ sizeLine; decide, [w1, w2], .cons ru (.cons ru2 .nil), ⟨_, hT2, rfl, _, rfl⟩⟩
    have I1 : Inv X pins σ (upd H s.heap.objs.size (.tup [x, y])) { s with heap := h'', toks := tk } :=
      I.turnedNew (ch := [z, TI, TO, i1, i2]) (fun c o hb q => (sb.2 c (fun q' => hb (by simp [q']))).trans (hk c o (fun q' => hb (by simp [q'])) (fun q' => hb (by simp [q'])) (fun q' => hb (by simp [q'])) (fun q' => hb (by simp [q'])) q)) hf (Nat.le_refl _) new
    refine ⟨.ref s.heap.objs.size, _, I1, rfl, ⟨_, x, y, rfl, I.hok.fresh (Nat.le_refl _), rfl, fun l hl => by rw [Inv.sq_inj I hl hqx]; exact hx, fun l hl => by rw [Inv.sq_inj I hl hqy]; exact hy⟩, ⟨z'', ?_, ⟨w1, w2, ?_⟩, ?_, ?_⟩, fun c hcm => ?_⟩
    · exact (sb.2 _ D.TIz).trans (hk _ _ D.TIz D.TITO D.TIi1 D.TIi2 hTI)
    · exact (sb.2 _ D.TOz).trans TO'
    · exact iterB_at h1'.1 fun o q => (sb.2 _ (Ne.symm D.zi1)).trans q
    · exact iterB_at h2'.1 fun o q => (sb.2 _ (Ne.symm D.zi2)).trans q
    · have hlt : c < s.heap.objs.size := by
        have e' : c = z ∨ c = TI ∨ c = TO ∨ c = i1 ∨ c = i2 := by simpa using hcm
        rcases e' with q | q | q | q | q
        · rw [q]; exact hzl
        · rw [q]; exact Heap.lt_size hTI
        · rw [q]; exact Heap.lt_size hTO
        · rw [q]; obtain ⟨_, e1, _⟩ := iterB_obj h1; exact Heap.lt_size e1
        · rw [q]; obtain ⟨_, e2, _⟩ := iterB_obj h2; exact Heap.lt_size e2
      rw [upd_ne (Nat.ne_of_lt hlt)]
      exact (hf c hcm).1
  done := by
    intro X hP hw hK hc i pins s σ H E I hf st hg
    subst hP hw hK
    obtain ⟨hz, hTI, ⟨x0, y0, hTO⟩, h1, h2⟩ := st
    obtain ⟨xs, ys, hqx, hqy, hend⟩ := hg
    obtain ⟨its, rv, pp, _⟩ := Inv.sq I hqx
    obtain ⟨its2, rv2, pp2, _⟩ := Inv.sq I hqy
    have l1 := rv.length
    have l2 := rv2.length
    have hh : X.A.in1.handled = none := I.ok.hd hc
    have na : a ≠ i1 := fun e => by
      cases p with
      | false =>
        obtain ⟨o1, e1, c1, d1⟩ := h1
        obtain ⟨_, _, pl, _⟩ := I.list hqx
        obtain ⟨o, n, e2, c2, _⟩ := pl
        rw [e] at e2
        rw [e1] at e2; cases e2
        rw [c1] at c2
        simp at c2
      | true =>
        obtain ⟨o1, e1, c1, d1⟩ := h1
        obtain ⟨_, _, pl, _⟩ := I.tuple hqx
        obtain ⟨o, e2, c2, _⟩ := pl
        rw [e] at e2
        rw [e1] at e2; cases e2
        rw [c1] at c2
        simp at c2
    have nb : b ≠ i2 := fun e => by
      cases q with
      | false =>
        obtain ⟨o1, e1, c1, d1⟩ := h2
        obtain ⟨_, _, pl, _⟩ := I.list hqy
        obtain ⟨o, n, e2, c2, _⟩ := pl
        rw [e] at e2
        rw [e1] at e2; cases e2
        rw [c1] at c2
        simp at c2
      | true =>
        obtain ⟨o1, e1, c1, d1⟩ := h2
        obtain ⟨_, _, pl, _⟩ := I.tuple hqy
        obtain ⟨o, e2, c2, _⟩ := pl
        rw [e] at e2
        rw [e1] at e2; cases e2
        rw [c1] at c2
        simp at c2
    exact wpAny_pyNext_zipD2_end D (drawsB hh p i1 a na its.toArray) (drawsB hh q i2 b nb its2.toArray) hz hTI hTO ⟨h1, pp⟩ ⟨h2, pp2⟩ (by rw [List.size_toArray]; omega) (by rw [List.size_toArray]; omega) (by rw [List.size_toArray, List.size_toArray]; omega)
      fun h' tk hk => ⟨rfl, I.turnedL (t' := tk) (ch := [z, TI, TO, i1, i2]) (fun c o hb q =>
      hk c o (fun q' => hb (by simp [q'])) (fun q' => hb (by simp [q'])) (fun q' => hb (by simp [q'])) (fun q' => hb (by simp [q'])) q) hf⟩
  self := fun A i s Q E st h => wpAny_pyIter_zip st.1 h
def iZipB (K : PySem.W.Frag) (ta : TA) : TI := fun σ H R => ta σ H fun vs H1 => ∃ p q a b xs ys, vs = [.ref a, .ref b] ∧ SqB K p H1 a xs ∧ SqB K q H1 b ys ∧ R (ItzB K p q a b) H1
theorem pi_zipB {X : Cx} {e e2 : Expr} {ta : TA} {p pos tpos : Pos} {elts : List Expr} {kk : Nat} (hg : Gl X "zip") (hm : X.mg "zip" = none) (ha : PA X [e, e2] ta)
    (hs : starEach [e, e2] X.env = (false, eval e X.env) :: starEach [e2] X.env := by rfl) (hpl : (backTo pos (starEach [e2] X.env)).any (·.1) = false := by rfl) :
    PI X (.Tuple elts kk tpos) (.Call (.Name "zip" p) [e, e2] [] pos) (iZipB X.K ta) := by
  refine ⟨fun pins s σ H R I h => ?_⟩
  refine Call_ (ld_blt I hg hm PyProof.Rows.boot_zip (PyProof.Rows.callWith_type1 (thn (ha.run pos pins s σ H _ I h) fun us s1 ⟨vs, H1, I1, r1, q1⟩ => ?_) hs hpl))
  obtain ⟨p, q, a, b, xs, ys, ex, hqx, hqy, hR⟩ := q1
  subst ex
  cases r1 with
  | cons r rr =>
    cases rr with
    | cons r' rr =>
      cases rr
      cases r
      cases r'
      obtain ⟨its, rv, p1, la⟩ := Inv.sq I1 hqx
      obtain ⟨its2, rv2, p2, lb⟩ := Inv.sq I1 hqy
      refine zip_begins2 (beginsB p a its.toArray) (beginsB q b its2.toArray) p1 p2 fun h' hz hTI hTO h1 h2 hsz hk => wpAny_pyIter_zip hz ?_
      have I2 : Inv X pins σ H1 { s1 with heap := h' } := I1.kept (t' := s1.toks) hk
      refine ⟨s1.heap.objs.size + 4, [s1.heap.objs.size + 4, s1.heap.objs.size + 2, s1.heap.objs.size + 3, s1.heap.objs.size, s1.heap.objs.size + 1], _, _, H1, rfl, I2,
        turn_zipB (zip_sep2 (fp1 := [a]) (fp2 := [b]) (fun c hc => by rw [List.mem_singleton.mp hc]; exact la) (fun c hc => by rw [List.mem_singleton.mp hc]; exact lb)), ⟨hz, hTI, ⟨_, _, hTO⟩, iterB_new h1, iterB_new h2⟩, fun c hcm => ?_, hR⟩
      have e' : c = s1.heap.objs.size + 4 ∨ c = s1.heap.objs.size + 2 ∨ c = s1.heap.objs.size + 3 ∨ c = s1.heap.objs.size ∨ c = s1.heap.objs.size + 1 := by simpa using hcm
      have hle : s1.heap.objs.size ≤ c := by
        rcases e' with z | z | z | z | z
        · rw [z]; exact Nat.le_add_right _ _
        · rw [z]; exact Nat.le_add_right _ _
        · rw [z]; exact Nat.le_add_right _ _
        · rw [z]; exact Nat.le_refl _
        · rw [z]; exact Nat.le_add_right _ _
      exact I1.fpOk hle (I1.hok.fresh hle)
/-! enumerate -/
def IteB (K : PySem.W.Frag) (p : Bool) (a : Addr) : It :=
  ⟨fun i H => ∃ (xs : List V) (x : V), SqB K p H a xs ∧ xs[i]? = some x, fun i H v H' => ∃ T x, v = .ref T ∧ H T = none ∧ H' = upd H T (.tup [.int (i : Nat), x]) ∧ ∀ xs, SqB K p H a xs → xs[i]? = some x, fun i H => ∃ xs : List V, SqB K p H a xs ∧ xs.length = i⟩
theorem turn_enumB {P : Program} {w : PySem.World} {K : PySem.W.Frag} {elts : List Expr} {kk : Nat} {tpos : Pos} {p : Bool} (a e it : Addr) (hea : e ≠ a) :
    Turn P w K (.Tuple elts kk tpos) (IteB K p a) [e, it] e (fun i h => (∃ old, IsEnum h e it ((i : Nat) : Int) old) ∧ IterB p h it a i ∧ e ≠ it) where
  mem := by simp
  obj := fun i h st b hb => by
    obtain ⟨⟨old, he⟩, h1, _⟩ := st
    have e' : b = e ∨ b = it := by simpa using hb
    rcases e' with z | z
    · rw [z]; exact ⟨_, he, fun v q => nomatch q⟩
    · rw [z]; exact iterB_obj h1
  keep := fun i h h' st k => let ⟨⟨old, he⟩, hi, hne⟩ := st; ⟨⟨old, k e (by simp) _ he⟩, iterB_at hi fun o q => k it (by simp) o q, hne⟩
  item := by
    intro X hP hw hK hc i pins s σ H E I hf st hg
    subst hP hw hK
    obtain ⟨⟨old, he⟩, hit, hne⟩ := st
    obtain ⟨xs, x, hq, hx⟩ := hg
    obtain ⟨its, rv, pp, _⟩ := Inv.sq I hq
    obtain ⟨u, hu, ru⟩ := rv.get hx
    have hel : e < s.heap.objs.size := Heap.lt_size he
    have hil : it < s.heap.objs.size := by obtain ⟨_, q, _⟩ := iterB_obj hit; exact Heap.lt_size q
    have hh : X.A.in1.handled = none := I.ok.hd hc
    have na : a ≠ it := fun e0 => by
      cases p with
      | false =>
        obtain ⟨o1, e1, c1, d1⟩ := hit
        obtain ⟨_, _, pl, _⟩ := I.list hq
        obtain ⟨o, n, e2, c2, _⟩ := pl
        rw [e0] at e2
        rw [e1] at e2; cases e2
        rw [c1] at c2
        simp at c2
      | true =>
        obtain ⟨o1, e1, c1, d1⟩ := hit
        obtain ⟨_, _, pl, _⟩ := I.tuple hq
        obtain ⟨o, e2, c2, _⟩ := pl
        rw [e0] at e2
        rw [e1] at e2; cases e2
        rw [c1] at c2
        simp at c2
    refine wpAny_pyNext_enum_itemC (drawsB hh p it a na its.toArray) he ⟨hit, pp⟩ (by rw [List.size_toArray]; exact (List.getElem?_eq_some_iff.mp hu).1) hne (by simp [hne, hea]) fun w1 h' tk e1 ho hit' hT hsz hk => ?_
    have w1u : w1 = u := by
      have : its.toArray[i]? = some u := by simpa using hu
      rw [this] at e1; exact (Option.some.inj e1).symm
    subst w1u
    refine ⟨_, rfl, wpAny_letOwnedTupleGo_enum (s := { s with heap := h', toks := tk + 1 }) ho fun h'' he' sb => ?_⟩
    have hT2 : h''.get? s.heap.objs.size = some { cls := .type "tuple", data := .seq #[.int i tk, w1] } := (sb.2 _ (Nat.ne_of_gt hel)).trans hT
    have new : ObjOk X.prog X.w (upd H s.heap.objs.size (.tup [.int (i : Nat), x])) h'' s.heap.objs.size (.tup [.int (i : Nat), x]) :=
      ⟨by show 2 ≤ sizeLine; decide, [.int i tk, w1], .cons ⟨_, rfl⟩ (.cons ru .nil), ⟨_, hT2, rfl, _, rfl⟩⟩
    have I1 : Inv X pins σ (upd H s.heap.objs.size (.tup [.int (i : Nat), x])) { s with heap := h'', toks := tk + 1 } :=
      I.turnedNew (ch := [e, it]) (fun b ob hb q => (sb.2 b (fun z => hb (by simp [z]))).trans (hk b ob (fun z => hb (by simp [z])) (fun z => hb (by simp [z])) q)) hf (Nat.le_refl _) new
    refine ⟨.ref s.heap.objs.size, _, I1, rfl, ⟨_, x, rfl, I.hok.fresh (Nat.le_refl _), rfl, fun ys hy => by rw [Inv.sq_inj I hy hq]; exact hx⟩, ⟨⟨w1, ?_⟩, iterB_at hit'.1 fun o q => (sb.2 it (Ne.symm hne)).trans q, hne⟩, fun b hb => ?_⟩
    · have e1 : ((i + 1 : Nat) : Int) = (i : Int) + 1 := by omega
      rw [e1]; exact he'
    · have hb' : b < s.heap.objs.size := by
        have e' : b = e ∨ b = it := by simpa using hb
        rcases e' with z | z
        · rw [z]; exact hel
        · rw [z]; exact hil
      rw [upd_ne (Nat.ne_of_lt hb')]
      exact (hf b hb).1
  done := by
    intro X hP hw hK hc i pins s σ H E I hf st hg
    subst hP hw hK
    obtain ⟨⟨old, he⟩, hit, hne⟩ := st
    obtain ⟨xs, hq, hx⟩ := hg
    obtain ⟨its, rv, pp, _⟩ := Inv.sq I hq
    obtain ⟨f0, f1, f2, f3, f4, f5⟩ := hf it (by simp)
    have hl := rv.length
    have hh : X.A.in1.handled = none := I.ok.hd hc
    have na : a ≠ it := fun e0 => by
      cases p with
      | false =>
        obtain ⟨o1, e1, c1, d1⟩ := hit
        obtain ⟨_, _, pl, _⟩ := I.list hq
        obtain ⟨o, n, e2, c2, _⟩ := pl
        rw [e0] at e2
        rw [e1] at e2; cases e2
        rw [c1] at c2
        simp at c2
      | true =>
        obtain ⟨o1, e1, c1, d1⟩ := hit
        obtain ⟨_, _, pl, _⟩ := I.tuple hq
        obtain ⟨o, e2, c2, _⟩ := pl
        rw [e0] at e2
        rw [e1] at e2; cases e2
        rw [c1] at c2
        simp at c2
    refine wpAny_pyNext_enum_endD (drawsB hh p it a na its.toArray) he ?_ fun h' eb => ⟨rfl, I.turned (t' := s.toks) (fun b o hb q => eb b o hb q) f0 f1 f3 f4 f5⟩
    have : its.toArray.size = i := by rw [List.size_toArray]; omega
    rw [this]
    exact ⟨hit, pp⟩
  self := fun A i s Q E st h => let ⟨⟨_, he⟩, _⟩ := st; wpAny_pyIter_enum he h
end FL

namespace PySem
open Sem (wp)
theorem meets_enumerate_new1B {v : Value} {o : Obj} {H : Heap → Prop} (B : Begins v o H) :
    Meets (Builtin.«enumerate.__new__» ⟨[.type "enumerate", v], []⟩) (fun _ R s => H s.heap ∧
      R (.ok (.ret (.ref (s.heap.push o).objs.size))) { s with heap := (s.heap.push o).push { cls := .type "enumerate", data := .fields #[.none, .bool false, .ref s.heap.objs.size, rawInt 0, .none, .none] } }) :=
  .of_wp fun prog w A R s h => by
    obtain ⟨hp, g, d, tk, os⟩ := s; obtain ⟨h1, h⟩ := h
    have hsub := sub_enumerate
    have q1 : ∀ {A' : Around} {E : Value → Shared → Prop} {Q : Value → Shared → Prop}, Q (.ref hp.objs.size) ⟨hp.push o, g, d, tk, os⟩ → wpAny (model prog w) A' (pyIter v) Q E ⟨hp, g, d, tk, os⟩ :=
      fun q => B.iter prog w _ _ ⟨hp, g, d, tk, os⟩ _ h1 q
    wp_walk using q1
    refine wpAny_stack_any fun st => wpAny_pure ?_
    split
    · rename_i c _ _ _ _ _
      cases (c == Value.type "enumerate")
      · wp_walk using q1
        exact ⟨_, rfl, h⟩
      · wp_walk using q1
        exact ⟨_, rfl, h⟩
    · wp_walk using q1
      exact ⟨_, rfl, h⟩
theorem enum_begins1 {prog : Program} {w : World} {A : Around} {E : Value → Shared → Prop} {s : Shared} {v : Value} {o : Obj} {H : Heap → Prop} {Q : Value → Shared → Prop} (B : Begins v o H) (h1 : H s.heap)
    (h : ∀ h', IsEnum h' (s.heap.objs.size + 1) s.heap.objs.size 0 .none → h'.get? s.heap.objs.size = some o → h'.objs.size = s.heap.objs.size + 2 →
      (∀ b o, s.heap.get? b = some o → h'.get? b = some o) → Q (.ref (s.heap.objs.size + 1)) { s with heap := h' }) :
    wpAny (model prog w) A (call (.type "enumerate") [v]) Q E s := by
  refine callType_new F.called_enumerate (by decide) (F.typeCall_enumerate_1 _) (F.newCall_enumerate_1 _) (fun obj => F.args_object_init_2 obj _) F.entry_enumerate_new
    (meets_enumerate_new1B B) ⟨h1, ?_⟩
  have hz : (s.heap.push o).objs.size = s.heap.objs.size + 1 := Heap.size_push ..
  show _ ∧ _
  rw [hz]
  have he : IsEnum ((s.heap.push o).push { cls := .type "enumerate", data := .fields #[.none, .bool false, .ref s.heap.objs.size, rawInt 0, .none, .none] }) (s.heap.objs.size + 1) s.heap.objs.size 0 .none := by
    have := Heap.get?_push_size (s.heap.push o) (o := { cls := .type "enumerate", data := .fields #[.none, .bool false, .ref s.heap.objs.size, rawInt 0, .none, .none] }) rfl
    rw [hz] at this; exact this
  refine ⟨⟨_, he, rfl⟩, h _ he (Heap.get?_push_of_some _ (Heap.get?_push_size _ B.free)) (by rw [Heap.size_push, hz]) fun b o x => Heap.get?_push_of_some _ (Heap.get?_push_of_some _ x)⟩
end PySem
namespace FL
open PySem PySem.Spec PyProof.Rows L2 FR
def iEnumB (K : PySem.W.Frag) (ta : TA) : TI := fun σ H R => ta σ H fun vs H1 => ∃ p a xs, vs = [.ref a] ∧ SqB K p H1 a xs ∧ R (IteB K p a) H1
theorem pi_enumB {X : Cx} {e : Expr} {ta : TA} {p pos tpos : Pos} {elts : List Expr} {kk : Nat} (hg : Gl X "enumerate") (hm : X.mg "enumerate" = none) (ha : PA X [e] ta) (hs : starEach [e] X.env = [(false, eval e X.env)] := by rfl) :
    PI X (.Tuple elts kk tpos) (.Call (.Name "enumerate" p) [e] [] pos) (iEnumB X.K ta) := by
  refine ⟨fun pins s σ H R I h => ?_⟩
  refine Call_ (ld_blt I hg hm boot_enumerate (PyProof.Rows.callWith_type1 (thn (ha.run pos pins s σ H _ I h) fun us s1 ⟨vs, H1, I1, r1, q1⟩ => ?_) hs rfl))
  obtain ⟨p, a, xs, ex, hq, hR⟩ := q1
  subst ex
  cases r1 with
  | cons r rr =>
    cases rr
    cases r
    obtain ⟨its, rv, pp, la⟩ := Inv.sq I1 hq
    refine enum_begins1 (beginsB p a its.toArray) pp fun h' he hit hsz hk => wpAny_pyIter_enum he ?_
    have I2 : Inv X pins σ H1 { s1 with heap := h' } := I1.kept (t' := s1.toks) hk
    refine ⟨s1.heap.objs.size + 1, [s1.heap.objs.size + 1, s1.heap.objs.size], _, _, H1, rfl, I2, turn_enumB a (s1.heap.objs.size + 1) s1.heap.objs.size (Nat.ne_of_gt (Nat.lt_succ_of_lt la)), ⟨⟨.none, he⟩, iterB_new hit, Nat.succ_ne_self _⟩, fun b hb => ?_, hR⟩
    have e' : b = s1.heap.objs.size + 1 ∨ b = s1.heap.objs.size := by simpa using hb
    have hle : s1.heap.objs.size ≤ b := by
      rcases e' with z | z
      · rw [z]; exact Nat.le_add_right _ _
      · rw [z]; exact Nat.le_refl _
    exact I1.fpOk hle (I1.hok.fresh hle)
section
variable {K : PySem.W.Frag} {cls : Str → Addr} {W : WX} {m : List Addr} {F : Hp} {g : G} {H : Hp} {env : Env} {os : Nat → Option Addr} {σ : L2.St} {tA : TA} {gA : Env → G → Res (List D)}
theorem sqB_of {v : V} {d : D} {ds : List D} (w : World K cls m F g H) (r : Rep K cls m F v d) (e : seqD g d = some ds) (nr : ∀ n, d ≠ .ref n) : ∃ p a xs, v = .ref a ∧ SqB K p H a xs ∧ RepL K cls m F xs ds ∧ ∀ m2 F2 g2 H2, Grow m F m2 F2 → World K cls m2 F2 g2 H2 → SqB K p H2 a xs := by
  cases r with
  | tup a b => cases e; exact ⟨true, _, _, rfl, sqT_mono w.fe a, b, fun m2 F2 g2 H2 gr w2 => sqT_mono (fun x o q => w2.fe _ _ (gr.F _ _ q)) a⟩
  | lst a b => cases e; exact ⟨false, _, _, rfl, SqL.of (w.fe _ _ a), b, fun m2 F2 g2 H2 gr w2 => SqL.of (w2.fe _ _ (gr.F _ _ a))⟩
  | scr a =>
    cases e
    rename_i p ns
    have : ∀ l : List Int, RepL K cls m F (l.map V.int) (l.map D.int) := fun l => by
      induction l with
      | nil => exact .nil
      | cons x l ih => exact .cons (.int x) ih
    exact ⟨false, _, _, rfl, sqL_mono w.fe a, this ns, fun m2 F2 g2 H2 gr w2 => sqL_mono (fun x o q => w2.fe _ _ (gr.F _ _ q)) a⟩
  | ref a => exact absurd rfl (nr _)
  | _ => cases e
/-- a sequence that stays, by its items -/
def seqF : D → Option (List D)
  | .tup xs => some xs
  | .lst xs => some xs
  | .scr ns => some (ns.map D.int)
  | _ => none
theorem seqF_seqD {d : D} {ds : List D} (g : G) (e : seqF d = some ds) : seqD g d = some ds ∧ ∀ n, d ≠ .ref n := by
  cases d <;> first | (cases e; exact ⟨rfl, fun _ z => by cases z⟩) | cases e
def zipD : List D → List D → List D
  | x :: xs, y :: ys => .tup [x, y] :: zipD xs ys
  | _, _ => []
theorem zipD_length : ∀ xs ys : List D, (zipD xs ys).length = min xs.length ys.length
  | [], _ => by simp [zipD]
  | _ :: _, [] => by simp [zipD]
  | x :: xs, y :: ys => by simp only [zipD, List.length_cons, zipD_length xs ys]; omega
theorem zipD_get : ∀ (xs ys : List D) (i : Nat) (x y : D), xs[i]? = some x → ys[i]? = some y → (zipD xs ys)[i]? = some (.tup [x, y])
  | x :: xs, y :: ys, 0, _, _, e1, e2 => by simp at e1 e2; subst e1 e2; rfl
  | x :: xs, y :: ys, i + 1, _, _, e1, e2 => by
    simp only [List.getElem?_cons_succ] at e1 e2
    simp only [zipD, List.getElem?_cons_succ]
    exact zipD_get xs ys i _ _ e1 e2
  | [], _, _, _, _, e1, _ => by simp at e1
  | _ :: _, [], _, _, _, _, e2 => by simp at e2
def enumD (n : Nat) : List D → List D
  | [] => []
  | x :: xs => .tup [.int n, x] :: enumD (n + 1) xs
theorem enumD_length : ∀ (n : Nat) (xs : List D), (enumD n xs).length = xs.length
  | _, [] => rfl
  | n, x :: xs => by simp [enumD, enumD_length (n + 1) xs]
theorem enumD_get : ∀ (xs : List D) (n i : Nat) (x : D), xs[i]? = some x → (enumD n xs)[i]? = some (.tup [.int ((n + i : Nat) : Int), x])
  | x :: xs, n, 0, _, e => by simp at e; subst e; rfl
  | x :: xs, n, i + 1, _, e => by
    simp only [List.getElem?_cons_succ] at e
    simp only [enumD, List.getElem?_cons_succ]
    have := enumD_get xs (n + 1) i _ e
    rw [this]
    congr 5
    omega
  | [], _, _, _, e => by simp at e
def fZip (fa : Env → G → Res (List D)) : Env → G → Res (List D) := fun env g => (fa env g).bind fun ds g1 => match ds with
  | [a, b] => match seqF a, seqF b with
    | some xs, some ys => .ok (zipD xs ys) g1
    | _, _ => .stuck
  | _ => .stuck
def fEnum (fa : Env → G → Res (List D)) : Env → G → Res (List D) := fun env g => (fa env g).bind fun ds g1 => match ds with
  | [a] => match seqF a with
    | some xs => .ok (enumD 0 xs) g1
    | none => .stuck
  | _ => .stuck
theorem get_of {xs : List V} {ds : List D} {i : Nat} {x : V} (r : RepL K cls m F xs ds) (e : xs[i]? = some x) : ∃ d, ds[i]? = some d ∧ Rep K cls m F x d := by
  have hi : i < ds.length := by rw [← r.length]; exact (List.getElem?_eq_some_iff.mp e).1
  have hd : ds[i]? = some ds[i] := by simp [hi]
  obtain ⟨v, h1, h2⟩ := r.get hd
  rw [e] at h1
  cases h1
  exact ⟨_, hd, h2⟩
theorem si_zip (ha : SA K cls W tA gA) : SI K cls W (iZipB K tA) (fZip gA) := fun m F g H env os σ R rl h =>
  ha m F g H env os σ _ rl (h.bind fun ds g1 vs m1 F1 H1 s1 w1 q h1 => by
    split at h1
    · obtain ⟨x, y, rfl, r1, r2⟩ := repL2 q
      split at h1
      · rename_i xs ys e1 e2
        obtain ⟨p, a, us, rfl, q1, l1, k1⟩ := sqB_of w1 r1 (seqF_seqD g1 e1).1 (seqF_seqD g1 e1).2
        obtain ⟨p', b, us', rfl, q2, l2, k2⟩ := sqB_of w1 r2 (seqF_seqD g1 e2).1 (seqF_seqD g1 e2).2
        refine ⟨p, p', a, b, us, us', rfl, q1, q2, h1.here w1 ?_⟩
        refine ⟨fun H2 => SqB K p H2 a us ∧ SqB K p' H2 b us', YPair (fun i => us[i]?) (fun i => us'[i]?), ?_, fun m2 F2 g2 H2 gr w2 => ⟨k1 m2 F2 g2 H2 gr w2, k2 m2 F2 g2 H2 gr w2⟩, fun i m2 F2 g2 H2 x H3 hi gr w2 y => ?_⟩
        · rw [zipD_length, ← l1.length, ← l2.length]
          refine ⟨fun i _ hi q => ?_, fun _ q => ⟨us, us', q.1, q.2, by omega⟩, fun i H v H' _ q y => ?_⟩
          · have h1 : i < us.length := by omega
            have h2 : i < us'.length := by omega
            exact ⟨us, us', us[i], us'[i], q.1, q.2, by simp [h1], by simp [h2]⟩
          · obtain ⟨T, x, z, h1, h2, h3, h4, h5⟩ := y
            exact ⟨T, x, z, h1, h2, h3, h4 us q.1, h5 us' q.2⟩
        · obtain ⟨T, x, z, rfl, hT, rfl, e3, e4⟩ := y
          obtain ⟨d1, hd1, rd1⟩ := get_of l1 e3
          obtain ⟨d2, hd2, rd2⟩ := get_of l2 e4
          obtain ⟨w3, s3⟩ := w2.new (o := .tup [x, z]) hT
          refine ⟨_, s3, w3, .tup [d1, d2], zipD_get xs ys i d1 d2 hd1 hd2, .tup sqT_new (.cons (Rep.mono (gr.trans s3.grow) _ _ rd1) (.cons (Rep.mono (gr.trans s3.grow) _ _ rd2) .nil))⟩
      · exact h1.elim
    · exact h1.elim)
theorem si_enum (ha : SA K cls W tA gA) : SI K cls W (iEnumB K tA) (fEnum gA) := fun m F g H env os σ R rl h =>
  ha m F g H env os σ _ rl (h.bind fun ds g1 vs m1 F1 H1 s1 w1 q h1 => by
    split at h1
    · obtain ⟨x, rfl, r1⟩ := repL1 q
      split at h1
      · rename_i xs e1
        obtain ⟨p, a, us, rfl, q1, l1, k1⟩ := sqB_of w1 r1 (seqF_seqD g1 e1).1 (seqF_seqD g1 e1).2
        refine ⟨p, a, us, rfl, q1, h1.here w1 ?_⟩
        refine ⟨fun H2 => SqB K p H2 a us, YPair (fun i => some (.int (i : Nat))) (fun i => us[i]?), ?_, fun m2 F2 g2 H2 gr w2 => k1 m2 F2 g2 H2 gr w2, fun i m2 F2 g2 H2 x H3 hi gr w2 y => ?_⟩
        · rw [enumD_length, ← l1.length]
          refine ⟨fun i _ hi q => ⟨us, us[i], q, by simp [hi]⟩, fun _ q => ⟨us, q, rfl⟩, fun i H v H' _ q y => ?_⟩
          obtain ⟨T, x, h1, h2, h3, h4⟩ := y
          exact ⟨T, .int (i : Nat), x, h1, h2, h3, rfl, h4 us q⟩
        · obtain ⟨T, x, z, rfl, hT, rfl, e3, e4⟩ := y
          obtain ⟨d2, hd2, rd2⟩ := get_of l1 e4
          have e3' : x = .int (i : Nat) := (Option.some.inj e3).symm
          subst e3'
          obtain ⟨w3, s3⟩ := w2.new (o := .tup [.int (i : Nat), z]) hT
          refine ⟨_, s3, w3, .tup [.int ((0 + i : Nat) : Int), d2], enumD_get xs 0 i d2 hd2, ?_⟩
          rw [Nat.zero_add]
          exact .tup sqT_new (.cons (.int _) (.cons (Rep.mono (gr.trans s3.grow) _ _ rd2) .nil))
      · exact h1.elim
    · exact h1.elim)

/-! ### new cells -/
theorem liveAt_push {g : G} {c : Cell} {p a : Addr} (hl : m.length = g.length) : LiveAt (m ++ [p]) (g ++ [c]) a → LiveAt m g a ∨ a = p := fun ⟨n, c', h1, h2, h3⟩ => by
  by_cases hn : n < g.length
  · rw [List.getElem?_append_left hn] at h1
    rw [List.getElem?_append_left (by omega)] at h3
    exact .inl ⟨n, c', h1, h2, h3⟩
  · rw [List.getElem?_append_right (by omega)] at h3
    rcases List.getElem?_eq_some_iff.mp h3 with ⟨h4, h5⟩
    simp at h5
    exact .inr h5.symm
theorem World.cell (w : World K cls m F g H) {p : Addr} {o : HO} {c : Cell} (hp : H p = none) (hd : c ≠ .dead) (hc : CellR K cls (m ++ [p]) F (upd H p o) p c) :
    World K cls (m ++ [p]) F (g ++ [c]) (upd H p o) ∧ Step ⟨m, F, g, H⟩ (m ++ [p]) F (g ++ [c]) (upd H p o) := by
  have gr : Grow m F (m ++ [p]) F := ⟨fun n a h => by rw [List.getElem?_append_left (List.getElem?_eq_some_iff.mp h).1]; exact h, fun _ _ h => h⟩
  have ne : ∀ a, LiveAt m g a → a ≠ p := fun a l z => l.tracked w (z ▸ hp)
  have spl : ∀ (n : Nat) (e : Cell) (a : Addr), (g ++ [c])[n]? = some e → (m ++ [p])[n]? = some a → (g[n]? = some e ∧ m[n]? = some a) ∨ (n = g.length ∧ e = c ∧ a = p) := fun n e a h1 h2 => by
    have hl := w.len
    by_cases hn : n < g.length
    · rw [List.getElem?_append_left hn] at h1
      rw [List.getElem?_append_left (by omega)] at h2
      exact .inl ⟨h1, h2⟩
    · rw [List.getElem?_append_right (by omega)] at h1 h2
      obtain ⟨h3, h4⟩ := List.getElem?_eq_some_iff.mp h1
      obtain ⟨h5, h6⟩ := List.getElem?_eq_some_iff.mp h2
      simp at h3 h4 h6
      exact .inr ⟨by omega, h4.symm, h6.symm⟩
  refine ⟨⟨by simp [w.len], fun n e a h1 h2 => ?_, fun n e a h1 h2 h3 => ?_, fun n n' e e' a h1 h2 h3 h4 h5 h6 => ?_, fun a u e => ?_⟩, ⟨gr, fun a u e _ => ?_, fun a h q => absurd q h, fun a l => ?_, fun a h => up_none h⟩⟩
  · rcases spl n e a h1 h2 with ⟨h3, h4⟩ | ⟨_, rfl, rfl⟩
    · by_cases hdd : e = .dead
      · subst hdd; trivial
      · exact CellR.mono gr (upd_ne (ne a ⟨n, e, h3, hdd, h4⟩)) (w.at_ n e a h3 h4)
    · exact hc
  · rcases spl n e a h1 h3 with ⟨h4, h5⟩ | ⟨_, rfl, rfl⟩
    · exact w.nf n e a h4 h2 h5
    · exact w.hF hp
  · rcases spl n e a h1 h5 with ⟨h7, h8⟩ | ⟨h7, _, rfl⟩
    · rcases spl n' e' a h3 h6 with ⟨h9, h10⟩ | ⟨h9, _, rfl⟩
      · exact w.inj n n' e e' a h7 h2 h9 h4 h8 h10
      · exact absurd rfl (ne _ ⟨n, e, h7, h2, h8⟩)
    · rcases spl n' e' a h3 h6 with ⟨h9, h10⟩ | ⟨h9, _, _⟩
      · exact absurd rfl (ne _ ⟨n', e', h9, h4, h10⟩)
      · rw [h7, h9]
  · rw [upd_ne (ne_of_none e (w.hF hp))]
    exact w.fe a u e
  · rw [upd_ne (ne_of_none e hp)]
    exact e
  · rcases liveAt_push w.len l with h | rfl
    · exact .inl h
    · exact .inr hp
/-- [..], to be changed in place -/
def fCellL (fa : Env → G → Res (List D)) : Env → G → Res D := fun env g => (fa env g).bind fun ds g1 => if ds.length ≤ sizeLine then .ok (.ref g1.length) (g1 ++ [.lst ds]) else .stuck
theorem Sat.cell {m : List Addr} {F : Hp} {g : G} {H : Hp} {p : Addr} {o : HO} {c : Cell} {Q : VK} (h : Sat K cls W σ (Rep K cls) ⟨m, F, g, H⟩ (.ok (.ref g.length) (g ++ [c])) Q) (w : World K cls m F g H) (hp : H p = none) (hd : c ≠ .dead) (hc : CellR K cls (m ++ [p]) F (upd H p o) p c) : Q (.ref p) (upd H p o) :=
  h _ (m ++ [p]) F _ (w.cell hp hd hc).2 (w.cell hp hd hc).1 (.ref (by rw [← w.len, List.getElem?_append_right (Nat.le_refl _), Nat.sub_self]; rfl))
theorem grow_push {m : List Addr} {F : Hp} {p : Addr} : Grow m F (m ++ [p]) F := ⟨fun n a h => by rw [List.getElem?_append_left (List.getElem?_eq_some_iff.mp h).1]; exact h, fun _ _ h => h⟩
theorem se_cellL (ha : SA K cls W tA gA) : SE K cls W (tLst tA) (fCellL gA) := fun m F g H env os σ Q rl h =>
  ha m F g H env os σ _ rl (h.bind fun ds g1 xs m1 F1 H1 s1 w1 r1 h1 => by
    split at h1
    · rename_i hl
      refine ⟨by rw [r1.length]; exact hl, fun p hp => Sat.cell h1 w1 hp (fun z => by cases z) ⟨xs, upd_same, RepL.mono grow_push _ _ r1⟩⟩
    · exact h1.elim)
/-! ### dict displays -/
theorem Step.keep {p : Addr} {o : HO} {m' : List Addr} {F' : Hp} {g' : G} {H' : Hp} (s : Step ⟨m, F, g, H⟩ m' F' g' H') (hA : H p = some o) (fA : F p = none) (lA : ¬ LiveAt m g p) : H' p = some o ∧ F' p = none ∧ ¬ LiveAt m' g' p := by
  refine ⟨s.fr p _ hA lA, ?_, fun z => ?_⟩
  · cases z : F' p with
    | none => rfl
    | some u =>
      rcases s.nF p (by rw [z]; exact fun y => by cases y) fA with y | y
      · have y' : H p = none := y
        rw [hA] at y'; cases y'
      · exact absurd y lA
  · rcases s.nL p z with y | y
    · exact lA y
    · have y' : H p = none := y
      rw [hA] at y'; cases y'
abbrev FPair := (Env → G → Res D) × (Env → G → Res D)
def fPairs : List FPair → Env → G → Res (List (D × D))
  | [], _, g => .ok [] g
  | (fk, fv) :: r, env, g => (fk env g).bind fun k g1 => (fv env g1).bind fun v g2 => (fPairs r env g2).bind fun ps g3 => .ok ((k, v) :: ps) g3
def RepP (m : List Addr) (F : Hp) (ps : List (V × V)) (ds : List (D × D)) : Prop := RepL K cls m F (ps.map (·.1)) (ds.map (·.1)) ∧ RepL K cls m F (ps.map (·.2)) (ds.map (·.2))
def SP (K : PySem.W.Frag) (cls : Str → Addr) (W : WX) (trs : List (TE × TE)) (f : Env → G → Res (List (D × D))) : Prop := ∀ m F g H env os σ (Q : List (V × V) → Hp → Prop), Rl K cls m F g H env os σ → Sat K cls W σ (RepP (K := K) (cls := cls)) ⟨m, F, g, H⟩ (f env g) Q → tPairs trs σ H Q
theorem sp_nil : SP K cls W [] (fPairs []) := fun m F g H env os σ Q rl h => h.here rl.w ⟨.nil, .nil⟩
theorem sp_cons {tk tv : TE} {fk fv : Env → G → Res D} {trs : List (TE × TE)} {fr : List FPair} (hk : SE K cls W tk fk) (hv : SE K cls W tv fv) (hr : SP K cls W trs (fPairs fr)) : SP K cls W ((tk, tv) :: trs) (fPairs ((fk, fv) :: fr)) := fun m F g H env os σ Q rl h =>
  hk m F g H env os σ _ rl (h.bind fun k g1 kv m1 F1 H1 s1 w1 r1 h1 => hv m1 F1 g1 H1 env os σ _ (rl.step s1 w1) (h1.bind fun v g2 vv m2 F2 H2 s2 w2 r2 h2 => hr m2 F2 g2 H2 env os σ _ ((rl.step s1 w1).step s2 w2) (h2.bind fun ps g3 vs m3 F3 H3 s3 w3 r3 h3 =>
    h3.here w3 ⟨.cons (Rep.mono (s2.trans s3).grow _ _ r1) r3.1, .cons (Rep.mono s3.grow _ _ r2) r3.2⟩)))
/-- int and text keys -/
def keysD : List (D × D) → Option (List (Key × D))
  | [] => some []
  | (k, v) :: r => match keyD k, keysD r with
    | some k', some r' => some ((k', v) :: r')
    | _, _ => none
def mergeD (kvs more : List (Key × D)) : List (Key × D) := more.foldl (fun acc kv => setK acc kv.1 kv.2) kvs
theorem keysD_rep : ∀ {ds : List (D × D)} {ps : List (V × V)} {kvs : List (Key × D)}, RepP (K := K) (cls := cls) m F ps ds → keysD ds = some kvs → ∃ kv : List (Key × V), ps = kv.map (fun x => (kV x.1, x.2)) ∧ RepK K cls m F kv kvs
  | [], ps, kvs, r, e => by
    cases e
    cases ps with
    | nil => exact ⟨[], rfl, .nil⟩
    | cons a b => obtain ⟨r1, _⟩ := r; cases r1
  | (k, v) :: ds, ps, kvs, r, e => by
    cases ps with
    | nil => obtain ⟨r1, _⟩ := r; cases r1
    | cons a b =>
      obtain ⟨r1, r2⟩ := r
      cases r1 with
      | cons q1 r1 =>
        cases r2 with
        | cons q2 r2 =>
          unfold keysD at e
          split at e
          · rename_i k' r' e1 e2
            cases e
            obtain ⟨kv, rfl, rk⟩ := keysD_rep ⟨r1, r2⟩ e2
            have := key_rep q1 e1
            refine ⟨(k', a.2) :: kv, ?_, .cons q2 rk⟩
            rw [List.map_cons]
            congr 1
            exact Prod.ext this rfl
          · cases e
theorem mergeD_rep : ∀ {more : List (Key × D)} {mv : List (Key × V)} {kvs : List (Key × D)} {kv : List (Key × V)}, RepK K cls m F mv more → RepK K cls m F kv kvs → RepK K cls m F (mergeK kv mv) (mergeD kvs more)
  | [], _, _, _, r, q => by cases r; exact q
  | (k, d) :: more, _, kvs, kv, r, q => by
    cases r with
    | @cons _ v _ mv _ a b => exact (mergeD_rep (more := more) (mv := mv) (kvs := setK kvs k d) (kv := putK kv k v) b (putK_rep a q) :)
def fDisp (prs : List FPair) : Env → G → Res D := fun env g => (fPairs prs env g).bind fun ps g1 => match keysD ps with
  | some kvs => if kvs.length ≤ 15 then .ok (.dct (mergeD [] kvs)) g1 else .stuck
  | none => .stuck
theorem repK_length2 {xs : List (Key × V)} {ds : List (Key × D)} (r : RepK K cls m F xs ds) : xs.length = ds.length := repK_length r
theorem se_disp {trs : List (TE × TE)} {prs : List FPair} (hp : SP K cls W trs (fPairs prs)) : SE K cls W (tDisp trs) (fDisp prs) := fun m F g H env os σ Q rl h => by
  intro p hn
  have nF := rl.w.hF hn
  have nL : ¬ LiveAt m g p := fun l => l.tracked rl.w hn
  have s0 : Step ⟨m, F, g, H⟩ m F g (upd H p (.dK [])) := (Step.refl _ _ _ _).wr hn
  have w0 : World K cls m F g (upd H p (.dK [])) := rl.w.wr nF nL
  refine hp m F g _ env os σ _ (rl.step s0 w0) ?_
  have h' : Sat K cls W σ (Rep K cls) ⟨m, F, g, H⟩ ((fPairs prs env g).bind fun ps g1 => match keysD ps with
    | some kvs => if kvs.length ≤ 15 then .ok (.dct (mergeD [] kvs)) g1 else .stuck
    | none => .stuck) Q := h
  cases e : fPairs prs env g with
  | stuck => rw [e] at h'; exact h'.elim
  | exc x g1 => rw [e] at h'; exact fun cl dx m1 F1 H1 s w q => h' cl dx m1 F1 H1 (s0.trans s) w q
  | ok ps g1 =>
    rw [e] at h'
    simp only [Res.bind_ok] at h'
    intro vs m1 F1 H1 s w q
    cases ek : keysD ps with
    | none => simp only [ek] at h'; exact h'.elim
    | some kvs =>
      simp only [ek] at h'
      split at h'
      · rename_i hl
        obtain ⟨k1, k2, k3⟩ := s.keep upd_same nF nL
        obtain ⟨kv, rfl, rk⟩ := keysD_rep q ek
        refine ⟨k1, kv, rfl, by rw [repK_length rk]; exact hl, ?_⟩
        have s1 := s0.trans s
        have wn : World K cls m1 F1 g1 (upd H1 p (.dK (mergeK [] kv))) := w.wr k2 k3
        have sn := s1.wr (o := .dK (mergeK [] kv)) hn
        exact h' (.ref p) m1 (upd F1 p (.dK (mergeK [] kv))) _ (sn.freeze k2 hn) (wn.freeze k2 k3 upd_same) (.dct upd_same (RepK.mono (grow_new k2) _ _ (mergeD_rep rk .nil)))
      · exact h'.elim
end
section
variable {K : PySem.W.Frag} {cls : Str → Addr} {X : Cx} {W : WX} {e e2 a b : Expr} {es : List Expr} {tA : TA} {gA : Env → G → Res (List D)} {pos p tpos : Pos} {elts : List Expr} {kk : Nat} {ta tb : TE} {fa fb : Env → G → Res D}
theorem fi_zip (hm : X.mg "zip" = none) (ha : FA cls X W [e, e2] tA gA) (hg : Gl X "zip" := by rfl) (hs : starEach [e, e2] X.env = (false, eval e X.env) :: starEach [e2] X.env := by rfl) (hpl : (backTo pos (starEach [e2] X.env)).any (·.1) = false := by rfl) :
    FI cls X W (.Tuple elts kk tpos) (.Call (.Name "zip" p) [e, e2] [] pos) (iZipB X.K tA) (fZip gA) := ⟨pi_zipB hg hm ha.p hs hpl, si_zip ha.s⟩
theorem fi_enum (hm : X.mg "enumerate" = none) (ha : FA cls X W [e] tA gA) (hg : Gl X "enumerate" := by rfl) (hs : starEach [e] X.env = [(false, eval e X.env)] := by rfl) :
    FI cls X W (.Tuple elts kk tpos) (.Call (.Name "enumerate" p) [e] [] pos) (iEnumB X.K tA) (fEnum gA) := ⟨pi_enumB hg hm ha.p hs, si_enum ha.s⟩
theorem tkW0 {X : Cx} : Takes X W0 := fun _ _ x => by
  obtain ⟨_, _, _, _, _, _, _, _, _, _, _, _, _, _, _, _, z⟩ := x
  exact z.elim
theorem fe_cell (ha : FA cls X W es tA gA) : FE cls X W (.List es pos) (tLst tA) (fCellL gA) := ⟨pe_lst ha.p, se_cellL ha.s⟩
structure FPs (cls : Str → Addr) (X : Cx) (W : WX) (pos : Pos) (keys : List (Option Expr)) (values : List Expr) (trs : List (TE × TE)) (prs : List FPair) : Prop where
  p : PPs X pos keys values trs
  s : SP X.K cls W trs (fPairs prs)
theorem fps_nil : FPs cls X W pos [] [] [] [] := ⟨pps_nil, sp_nil⟩
theorem fps_cons {ks : List (Option Expr)} {vs : List Expr} {trs : List (TE × TE)} {prs : List FPair} (hk : FE cls X W a ta fa) (hv : FE cls X W b tb fb) (hr : FPs cls X W pos ks vs trs prs) : FPs cls X W pos (some a :: ks) (b :: vs) ((ta, tb) :: trs) ((fa, fb) :: prs) := ⟨pps_cons hk.p hv.p hr.p, sp_cons hk.s hv.s hr.s⟩
theorem fe_disp {ks : List (Option Expr)} {vs : List Expr} {trs : List (TE × TE)} {prs : List FPair} (h : FPs cls X W pos ks vs trs prs) (hall : ks.all (·.isSome) = true := by rfl) (hl : ks.length = vs.length := by rfl) (h0 : ks ≠ [] := by exact List.cons_ne_nil _ _) (h15 : ks.length ≤ 15 := by decide) : FE cls X W (.Dict ks vs pos) (tDisp trs) (fDisp prs) := ⟨pe_disp h.p hall hl h0 h15, se_disp h.s⟩
end
end FL

/-! FLW: weakest preconditions of the functions on data: what a law's function must come to, step by step, by simp. -/
namespace FL
open PySem PySem.Spec PyProof.Rows L2 FR
def wR {α : Type} (r : Res α) (Q : α → G → Prop) (X : Exn → G → Prop) : Prop := match r with
  | .ok a g => Q a g
  | .exc x g => X x g
  | .stuck => False
theorem ite_f {p : Prop} [Decidable p] {A : Prop} : (if p then A else False) = (p ∧ A) := by
  by_cases h : p
  · rw [if_pos h]; exact (true_and A).symm.trans (by rw [eq_true h])
  · rw [if_neg h]; exact (false_and A).symm.trans (by rw [eq_false h])
structure Es where
  N : Env → G → Prop
  R : D → G → Prop
  B : Env → G → Prop
  C : Env → G → Prop
  X : Exn → Env → G → Prop
def wS (r : SRes) (E : Es) : Prop := match r with
  | .next e g => E.N e g
  | .ret d g => E.R d g
  | .brk e g => E.B e g
  | .cnt e g => E.C e g
  | .exc x e g => E.X x e g
  | .stuck => False
def wO (o : Option Env) (Q : Env → Prop) : Prop := match o with
  | some e => Q e
  | none => False
section
variable {α β : Type} {r : Res α} {Q : β → G → Prop} {Qa : α → G → Prop} {Qd : D → G → Prop} {Qb : Bool → G → Prop} {Ql : List D → G → Prop} {X : Exn → G → Prop} {E : Es} {env : Env} {g : G}
theorem wR.mono {Q Q' : α → G → Prop} (h : wR r Q X) (hq : ∀ a g, Q a g → Q' a g) : wR r Q' X := by
  cases r <;> first | exact hq _ _ h | exact h
theorem wR.mono2 {Q Q' : α → G → Prop} {X X' : Exn → G → Prop} (h : wR r Q X) (hq : ∀ a g, Q a g → Q' a g) (hx : ∀ x g, X x g → X' x g) : wR r Q' X' := by
  cases r <;> first | exact hq _ _ h | exact hx _ _ h | exact h
theorem wR_ok {a : α} : wR (.ok a g) Qa X = Qa a g := rfl
theorem wR_stuck : wR (.stuck : Res α) Qa X = False := rfl
theorem wR_exc {x : Exn} : wR (.exc x g : Res α) Qa X = X x g := rfl
theorem wR_bind {k : α → G → Res β} : wR (r.bind k) Q X = wR r (fun a g => wR (k a g) Q X) X := by cases r <;> rfl
theorem wR_var {i : Nat} : wR (fVar i env g) Qd X = match env[i]? with | some (.val d) => Qd d g | _ => False := by
  unfold fVar
  cases env[i]? with
  | none => rfl
  | some s => cases s <;> rfl
theorem wR_c {d : D} : wR (fC d env g) Qd X = Qd d g := rfl
theorem wR_1 {op : D → G → Res D} {fa : Env → G → Res D} : wR (f1 op fa env g) Qd X = wR (fa env g) (fun a g => wR (op a g) Qd X) X := wR_bind
theorem wR_2 {op : D → D → G → Res D} {fa fb : Env → G → Res D} : wR (f2 op fa fb env g) Qd X = wR (fa env g) (fun a g => wR (fb env g) (fun b g => wR (op a b g) Qd X) X) X := by
  unfold f2
  rw [wR_bind]
  simp only [wR_bind]
theorem wR_nilA : wR (fNilA env g) Ql X = Ql [] g := rfl
theorem wR_consA {fa : Env → G → Res D} {fr : Env → G → Res (List D)} : wR (fConsA fa fr env g) Ql X = wR (fa env g) (fun a g => wR (fr env g) (fun r g => Ql (a :: r) g) X) X := by
  unfold fConsA
  simp only [wR_bind, wR_ok]
theorem wR_ite {p : Prop} [Decidable p] {r1 r2 : Res α} : wR (if p then r1 else r2) Qa X = if p then wR r1 Qa X else wR r2 Qa X := by split <;> rfl
theorem wR_tup {fa : Env → G → Res (List D)} : wR (fTup fa env g) Qd X = wR (fa env g) (fun ds g => ds.length ≤ sizeLine ∧ Qd (.tup ds) g) X := by
  unfold fTup
  simp only [wR_bind, wR_ite, wR_ok, wR_stuck]
  simp only [ite_f]
theorem wR_lst {fa : Env → G → Res (List D)} : wR (fLst fa env g) Qd X = wR (fa env g) (fun ds g => ds.length ≤ sizeLine ∧ Qd (.lst ds) g) X := by
  unfold fLst
  simp only [wR_bind, wR_ite, wR_ok, wR_stuck]
  simp only [ite_f]
theorem wR_cellL {fa : Env → G → Res (List D)} : wR (fCellL fa env g) Qd X = wR (fa env g) (fun ds g => ds.length ≤ sizeLine ∧ Qd (.ref g.length) (g ++ [.lst ds])) X := by
  unfold fCellL
  simp only [wR_bind, wR_ite, wR_ok, wR_stuck]
  simp only [ite_f]
theorem wR_asB {b : Bool} : wR (asB (.bl b) g) Qb X = Qb b g := rfl
theorem wR_test {fa : Env → G → Res D} : wR (fTest fa env g) Qb X = wR (fa env g) (fun d g => wR (asB d g) Qb X) X := wR_bind
theorem wR_andT {fa fb : Env → G → Res Bool} : wR (fAndT fa fb env g) Qb X = wR (fa env g) (fun a g => if a = true then wR (fb env g) Qb X else Qb false g) X := by
  unfold fAndT
  simp only [wR_bind, wR_ite, wR_ok]
theorem wR_orT {fa fb : Env → G → Res Bool} : wR (fOrT fa fb env g) Qb X = wR (fa env g) (fun a g => if a = true then Qb true g else wR (fb env g) Qb X) X := by
  unfold fOrT
  simp only [wR_bind, wR_ite, wR_ok]
theorem wR_notT {fa : Env → G → Res Bool} : wR (fNotT fa env g) Qb X = wR (fa env g) (fun a g => Qb (!a) g) X := by
  unfold fNotT
  simp only [wR_bind, wR_ok]
/-- a bool behind a value -/
def onB (d : D) (Q : Bool → Prop) : Prop := match d with
  | .bl b => Q b
  | _ => False
theorem onB_bl {b : Bool} {Q : Bool → Prop} : onB (.bl b) Q = Q b := rfl
theorem wR_andV {fa fb : Env → G → Res D} : wR (fAndV fa fb env g) Qd X = wR (fa env g) (fun a g => onB a fun b => if b = true then wR (fb env g) Qd X else Qd (.bl false) g) X := by
  unfold fAndV
  simp only [wR_bind]
  congr 1; funext a g
  cases a <;> first | rfl | skip
  rename_i b; cases b <;> rfl
theorem wR_orV {fa fb : Env → G → Res D} : wR (fOrV fa fb env g) Qd X = wR (fa env g) (fun a g => onB a fun b => if b = true then Qd (.bl true) g else wR (fb env g) Qd X) X := by
  unfold fOrV
  simp only [wR_bind]
  congr 1; funext a g
  cases a <;> first | rfl | skip
  rename_i b; cases b <;> rfl
theorem wR_notV {fa : Env → G → Res D} : wR (fNotV fa env g) Qd X = wR (fa env g) (fun a g => onB a fun b => Qd (.bl (!b)) g) X := by
  unfold fNotV
  simp only [wR_bind]
  congr 1; funext a g
  cases a <;> rfl
theorem wR_if {fc : Env → G → Res Bool} {fa fb : Env → G → Res D} : wR (fIf fc fa fb env g) Qd X = wR (fc env g) (fun c g => if c = true then wR (fa env g) Qd X else wR (fb env g) Qd X) X := by
  unfold fIf
  simp only [wR_bind, wR_ite]
theorem wR_call {F : List D → G → Res D} {fa : Env → G → Res (List D)} : wR (fCall F fa env g) Qd X = wR (fa env g) (fun ds g => wR (F ds g) Qd X) X := wR_bind
theorem wR_body {p n : Nat} {fb : Env → G → SRes} {ds : List D} : wR (bodyF p n fb ds g) Qd X = (ds.length = p ∧ wS (fb (startE n ds) g) ⟨fun _ g => Qd .non g, Qd, fun _ _ => False, fun _ _ => False, fun x _ g => X x g⟩) := by
  unfold bodyF
  by_cases h : ds.length = p
  · simp only [h, if_true, true_and]
    cases fb (startE n ds) g <;> rfl
  · simp only [h, if_false, false_and]; rfl
theorem wR_chain {op op' : D → D → G → Res D} {fa fb fc : Env → G → Res D} : wR (fChain op op' fa fb fc env g) Qd X = wR (fa env g) (fun a g => wR (fb env g) (fun b g => wR (op a b g) (fun z g => onB z fun t => if t = true then wR (fc env g) (fun c g => wR (op' b c g) Qd X) X else Qd (.bl false) g) X) X) X := by
  unfold fChain
  simp only [wR_bind]
  congr 1; funext a g; congr 1; funext b g; congr 1; funext z g
  cases z <;> first | rfl | skip
  rename_i t; cases t <;> simp [onB, wR_bind, wR_ok]
theorem wR_slice {fa : Env → G → Res D} {fl fh : Env → G → Res (Option Int)} : wR (fSlice fa fl fh env g) Qd X = wR (fa env g) (fun a g => wR (fl env g) (fun lo g => wR (fh env g) (fun hi g => wR (dSl a lo hi g) Qd X) X) X) X := by
  unfold fSlice
  simp only [wR_bind]
theorem wR_noPart {Qo : Option Int → G → Prop} : wR (fNoPart env g) Qo X = Qo none g := rfl
theorem wR_part {Qo : Option Int → G → Prop} {fa : Env → G → Res D} : wR (fPart fa env g) Qo X = wR (fa env g) (fun d g => match d with | .int i => Qo (some i) g | _ => False) X := by
  unfold fPart
  simp only [wR_bind]
  congr 1; funext d g
  cases d <;> rfl
theorem wR_okO {o : Option α} : wR (okO o g) Qa X = match o with | some a => Qa a g | none => False := by cases o <;> rfl
/-! statements -/
theorem wS_next : wS (.next env g) E = E.N env g := rfl
theorem wS_fNext : wS (fNext env g) E = E.N env g := rfl
theorem wS_seq {a b : Env → G → SRes} : wS (fSeq a b env g) E = wS (a env g) { E with N := fun e g => wS (b e g) E } := by
  unfold fSeq
  cases a env g <;> rfl
theorem wS_eS {r : Res D} {k : D → G → SRes} : wS (eS env r k) E = wR r (fun d g => wS (k d g) E) (fun x g => E.X x env g) := by cases r <;> rfl
theorem wS_ret {fa : Env → G → Res D} : wS (fRet fa env g) E = wR (fa env g) E.R (fun x g => E.X x env g) := by
  unfold fRet
  rw [wS_eS]; rfl
theorem wS_retN : wS (fRetN env g) E = E.R .non g := rfl
theorem wS_expr {fa : Env → G → Res D} : wS (fExpr fa env g) E = wR (fa env g) (fun _ g => E.N env g) (fun x g => E.X x env g) := by
  unfold fExpr
  rw [wS_eS]; rfl
theorem wS_asg {fa : Env → G → Res D} {ft : D → G → Env → Option Env} : wS (fAsg fa ft env g) E = wR (fa env g) (fun d g => wO (ft d g env) fun e => E.N e g) (fun x g => E.X x env g) := by
  unfold fAsg
  rw [wS_eS]
  congr 1; funext d g
  unfold tgS
  cases ft d g env <;> rfl
theorem wO_set {i : Nat} {d : D} {Q : Env → Prop} : wO (gSet i d g env) Q = match env[i]? with | some _ => Q (env.set i (.val d)) | none => False := by
  unfold gSet
  cases env[i]? <;> rfl
theorem wO_bind {o : Option Env} {k : Env → Option Env} {Q : Env → Prop} : wO (o.bind k) Q = wO o fun e => wO (k e) Q := by cases o <;> rfl
theorem wO_some {e : Env} {Q : Env → Prop} : wO (some e) Q = Q e := rfl
theorem wO_nils {Q : Env → Prop} : wO (gNils [] g env) Q = Q env := rfl
theorem wO_conss {f : D → G → Env → Option Env} {r : List D → G → Env → Option Env} {d : D} {ds : List D} {Q : Env → Prop} : wO (gConss f r (d :: ds) g env) Q = wO (f d g env) fun e => wO (r ds g e) Q := by
  unfold gConss
  exact wO_bind
theorem wO_tup {f : List D → G → Env → Option Env} {n : Nat} {ds : List D} {Q : Env → Prop} : wO (gTupF f n (.tup ds) g env) Q = (ds.length = n ∧ wO (f ds g env) Q) := by
  unfold gTupF
  by_cases h : ds.length = n
  · simp only [h, if_true, true_and]
  · simp only [h, if_false, false_and]; rfl
theorem wS_if {fc : Env → G → Res Bool} {f1 f2 : Env → G → SRes} : wS (fIfS fc f1 f2 env g) E = wR (fc env g) (fun c g => if c = true then wS (f1 env g) E else wS (f2 env g) E) (fun x g => E.X x env g) := by
  unfold fIfS
  cases fc env g with
  | ok c g1 => cases c <;> rfl
  | exc x g1 => rfl
  | stuck => rfl
theorem wS_for {fi : Env → G → Res (List D)} {ft : D → G → Env → Option Env} {fb : Env → G → SRes} : wS (fFor fi ft fb env g) E = wR (fi env g) (fun ds g => wS (loopF ft fb ds env g) E) (fun x g => E.X x env g) := by
  unfold fFor
  cases fi env g <;> rfl
theorem wS_loop_nil {ft : D → G → Env → Option Env} {fb : Env → G → SRes} : wS (loopF ft fb [] env g) E = E.N env g := rfl
theorem wS_loop_cons {ft : D → G → Env → Option Env} {fb : Env → G → SRes} {d : D} {ds : List D} : wS (loopF ft fb (d :: ds) env g) E = wO (ft d g env) fun e => wS (fb e g) ⟨fun e g => wS (loopF ft fb ds e g) E, E.R, E.N, fun e g => wS (loopF ft fb ds e g) E, E.X⟩ := by
  show wS (match ft d g env with | none => .stuck | some env1 => _) E = _
  cases ft d g env with
  | none => rfl
  | some e =>
    show wS (match fb e g with | .next e g1 => _ | .cnt e g1 => _ | .brk e g1 => _ | .ret d g1 => _ | .exc x e g1 => _ | .stuck => _) E = wS (fb e g) _
    cases fb e g <;> rfl
theorem wS_store {fe fo fi : Env → G → Res D} : wS (fStore fe fo fi env g) E = wR (fe env g) (fun d g => wR (fo env g) (fun o g => wR (fi env g) (fun i g => match setCell g o i d with | some g4 => E.N env g4 | none => False) (fun x g => E.X x env g)) (fun x g => E.X x env g)) (fun x g => E.X x env g) := by
  unfold fStore
  simp only [wS_eS]
  congr 1; funext d g; congr 1; funext o g; congr 1; funext i g
  cases setCell g o i d <;> rfl
theorem wS_par {i j : Nat} {fa : Env → G → Res (List D)} : wS (fPar i j fa env g) E = wR (fa env g) (fun ds g => match ds with | [a, b] => i < env.length ∧ j < env.length ∧ E.N ((env.set i (.val a)).set j (.val b)) g | _ => False) (fun x g => E.X x env g) := by
  unfold fPar
  cases fa env g with
  | ok ds g1 =>
    match ds with
    | [a, b] =>
      show wS (if _ then _ else _) E = (i < env.length ∧ j < env.length ∧ _)
      by_cases h : i < env.length ∧ j < env.length
      · rw [if_pos h]; simp only [h.1, h.2, true_and]; rfl
      · rw [if_neg h]
        have : (i < env.length ∧ j < env.length ∧ E.N ((env.set i (.val a)).set j (.val b)) g1) = False := by
          apply propext; constructor
          · exact fun q => h ⟨q.1, q.2.1⟩
          · exact False.elim
        rw [this]; rfl
    | [] => rfl
    | [_] => rfl
    | _ :: _ :: _ :: _ => rfl
  | exc x g1 => rfl
  | stuck => rfl
/-- a loop by an invariant on what is left -/
theorem wS_loop {ft : D → G → Env → Option Env} {fb : Env → G → SRes} (I : List D → Env → G → Prop) : ∀ (ds : List D) (env : Env) (g : G), I ds env g →
    (∀ d ds env g, I (d :: ds) env g → wO (ft d g env) fun e => wS (fb e g) ⟨fun e g => I ds e g, E.R, E.N, fun e g => I ds e g, E.X⟩) → (∀ env g, I [] env g → E.N env g) → wS (loopF ft fb ds env g) E
  | [], env, g, h0, _, hd => hd env g h0
  | d :: ds, env, g, h0, hs, hd => by
    rw [wS_loop_cons]
    have h := hs d ds env g h0
    cases e : ft d g env with
    | none => rw [e] at h; exact h
    | some e1 =>
      rw [e] at h
      have h' : wS (fb e1 g) ⟨fun e g => I ds e g, E.R, E.N, fun e g => I ds e g, E.X⟩ := h
      show wS (fb e1 g) _
      cases e2 : fb e1 g <;> rw [e2] at h' <;> first | exact h' | exact wS_loop I ds _ _ h' hs hd
/-! what is walked -/
def on1 (ds : List D) (Q : D → Prop) : Prop := match ds with
  | [a] => Q a
  | _ => False
def on2 (ds : List D) (Q : D → D → Prop) : Prop := match ds with
  | [a, b] => Q a b
  | _ => False
def onI (d : D) (Q : Int → Prop) : Prop := match d with
  | .int i => Q i
  | _ => False
theorem on1_e {a : D} {Q : D → Prop} : on1 [a] Q = Q a := rfl
theorem on2_e {a b : D} {Q : D → D → Prop} : on2 [a, b] Q = Q a b := rfl
theorem onI_e {i : Int} {Q : Int → Prop} : onI (.int i) Q = Q i := rfl
theorem wR_range1 {fa : Env → G → Res (List D)} : wR (fRange1 fa env g) Ql X = wR (fa env g) (fun ds g => on1 ds fun a => onI a fun j => (-(2 ^ 62) ≤ j ∧ j < 2 ^ 62) ∧ Ql (rangeD 0 j.toNat) g) X := by
  unfold fRange1
  rw [wR_bind]
  congr 1; funext ds g
  match ds with
  | [.int j] =>
    show wR (if _ then _ else _) _ _ = _
    rw [wR_ite, wR_ok, wR_stuck, ite_f]; rfl
  | [] => rfl
  | a :: _ :: _ => cases a <;> rfl
  | [.non] => rfl
  | [.bl _] => rfl
  | [.str _] => rfl
  | [.tup _] => rfl
  | [.lst _] => rfl
  | [.scr _] => rfl
  | [.dct _] => rfl
  | [.ins _ _] => rfl
  | [.ref _] => rfl
theorem wR_range2 {fa : Env → G → Res (List D)} : wR (fRange2 fa env g) Ql X = wR (fa env g) (fun ds g => on2 ds fun a b => onI a fun i => onI b fun j => (-(2 ^ 62) ≤ i ∧ i < 2 ^ 62 ∧ -(2 ^ 62) ≤ j ∧ j < 2 ^ 62) ∧ Ql (rangeD i (j - i).toNat) g) X := by
  unfold fRange2
  rw [wR_bind]
  congr 1; funext ds g
  match ds with
  | [a, b] =>
    cases a <;> first | rfl | skip
    cases b <;> first | rfl | skip
    show wR (if _ then _ else _) _ _ = _
    rw [wR_ite, wR_ok, wR_stuck, ite_f]; rfl
  | [] => rfl
  | [.int _] => rfl
  | [.non] => rfl
  | [.bl _] => rfl
  | [.str _] => rfl
  | [.tup _] => rfl
  | [.lst _] => rfl
  | [.scr _] => rfl
  | [.dct _] => rfl
  | [.ins _ _] => rfl
  | [.ref _] => rfl
  | .int _ :: b :: _ :: _ => cases b <;> rfl
  | .non :: b :: _ :: _ => rfl
  | .bl _ :: b :: _ :: _ => rfl
  | .str _ :: b :: _ :: _ => rfl
  | .tup _ :: b :: _ :: _ => rfl
  | .lst _ :: b :: _ :: _ => rfl
  | .scr _ :: b :: _ :: _ => rfl
  | .dct _ :: b :: _ :: _ => rfl
  | .ins _ _ :: b :: _ :: _ => rfl
  | .ref _ :: b :: _ :: _ => rfl
/-- what is walked, by its items -/
def onSeq (o : Option (List D)) (Q : List D → Prop) : Prop := match o with
  | some xs => Q xs
  | none => False
theorem onSeq_some {xs : List D} {Q : List D → Prop} : onSeq (some xs) Q = Q xs := rfl
theorem wR_seqI {fa : Env → G → Res D} : wR (fSeqI fa env g) Ql X = wR (fa env g) (fun d g => onSeq (seqF d) fun xs => Ql xs g) X := by
  unfold fSeqI
  simp only [wR_bind]
  congr 1; funext d g
  cases d <;> rfl
theorem wR_zip {fa : Env → G → Res (List D)} : wR (fZip fa env g) Ql X = wR (fa env g) (fun ds g => on2 ds fun a b => onSeq (seqF a) fun xs => onSeq (seqF b) fun ys => Ql (zipD xs ys) g) X := by
  unfold fZip
  rw [wR_bind]
  congr 1; funext ds g
  match ds with
  | [a, b] =>
    show wR (match seqF a, seqF b with | some xs, some ys => .ok (zipD xs ys) g | _, _ => .stuck) Ql X = onSeq (seqF a) fun xs => onSeq (seqF b) fun ys => Ql (zipD xs ys) g
    cases seqF a with
    | none => rfl
    | some xs => cases seqF b <;> rfl
  | [] => rfl
  | [_] => rfl
  | _ :: _ :: _ :: _ => rfl
theorem wR_enum {fa : Env → G → Res (List D)} : wR (fEnum fa env g) Ql X = wR (fa env g) (fun ds g => on1 ds fun a => onSeq (seqF a) fun xs => Ql (enumD 0 xs) g) X := by
  unfold fEnum
  rw [wR_bind]
  congr 1; funext ds g
  match ds with
  | [a] =>
    show wR (match seqF a with | some xs => .ok (enumD 0 xs) g | none => .stuck) Ql X = onSeq (seqF a) fun xs => Ql (enumD 0 xs) g
    cases seqF a <;> rfl
  | [] => rfl
  | _ :: _ :: _ => rfl
/-! comprehensions -/
theorem wR_lc {fi : Env → G → Res (List D)} {ft : D → G → Env → Option Env} {fif : Env → G → Res Bool} {fe : Env → G → Res D} {vs : List Nat} : wR (fLc fi ft fif fe vs env g) Qd X = wR (fi env g) (fun ds g => ds.length ≤ sizeLine ∧ wR (compF ft fif fe (wipeE env vs) ds g) (fun ys g => Qd (.lst ys) g) (fun _ _ => False)) X := by
  unfold fLc
  simp only [wR_bind]
  congr 1; funext ds g
  split
  · rename_i h
    simp only [h, true_and]
    cases compF ft fif fe (wipeE env vs) ds g <;> rfl
  · rename_i h
    simp only [h, false_and]; rfl
theorem wR_yes : wR (fYes env g) Qb X = Qb true g := rfl
/-- arithmetic on ints -/
theorem wR_dI {f : Int → Int → Int} {i j : Int} : wR (dI f (.int i) (.int j) g) Qd X = Qd (.int (f i j)) g := rfl
theorem wR_sub {i j : Int} : wR (dSub (.int i) (.int j) g) Qd X = Qd (.int (i - j)) g := rfl
theorem wR_add {i j : Int} : wR (dAdd (.int i) (.int j) g) Qd X = Qd (.int (i + j)) g := rfl
theorem wR_mul {i j : Int} : wR (dMul (.int i) (.int j) g) Qd X = (((-(2 ^ 64) < i ∧ i < 2 ^ 64) ∨ (-(2 ^ 64) < j ∧ j < 2 ^ 64)) ∧ Qd (.int (i * j)) g) := by
  show wR (if _ then _ else _) _ _ = _
  unfold cMul
  rw [wR_ite, wR_ok, wR_stuck]
  simp only [decide_eq_true_eq, ite_f]
theorem wR_mod {i j : Int} : wR (dMod (.int i) (.int j) g) Qd X = (0 < j ∧ Qd (.int (i % j)) g) := by
  show wR (if _ then _ else _) _ _ = _
  rw [wR_ite, wR_ok, wR_stuck]
  simp only [decide_eq_true_eq, ite_f]
theorem wR_div {i j : Int} : wR (dDiv (.int i) (.int j) g) Qd X = ((0 < j ∧ j < 1073741824) ∧ Qd (.int (i / j)) g) := by
  show wR (if _ then _ else _) _ _ = _
  rw [wR_ite, wR_ok, wR_stuck]
  simp only [decide_eq_true_eq, ite_f]
theorem wR_pow {i j : Int} : wR (dPow (.int i) (.int j) g) Qd X = ((0 ≤ j ∧ j ≤ 1000000 ∧ i.natAbs < 2 ^ 64) ∧ Qd (.int (i ^ j.toNat)) g) := by
  show wR (if _ then _ else _) _ _ = _
  rw [wR_ite, wR_ok, wR_stuck]
  simp only [decide_eq_true_eq, ite_f]
theorem wR_neg {i : Int} : wR (dNeg (.int i) g) Qd X = Qd (.int (-i)) g := rfl
theorem wR_lt {i j : Int} : wR (dLt (.int i) (.int j) g) Qd X = Qd (.bl (decide (i < j))) g := rfl
theorem wR_le {i j : Int} : wR (dLe (.int i) (.int j) g) Qd X = Qd (.bl (decide (i ≤ j))) g := rfl
theorem wR_gt {i j : Int} : wR (dGt (.int i) (.int j) g) Qd X = Qd (.bl (decide (j < i))) g := rfl
theorem wR_ge {i j : Int} : wR (dGe (.int i) (.int j) g) Qd X = Qd (.bl (decide (j ≤ i))) g := rfl
theorem wR_abs {i : Int} : wR (dAbs [.int i] g) Qd X = Qd (.int (if i < 0 then -i else i)) g := rfl
theorem wR_intC {i : Int} : wR (dIntC [.int i] g) Qd X = Qd (.int i) g := rfl
theorem wR_eqI {i j : Int} {neg : Bool} : wR (dEq neg (.int i) (.int j) g) Qd X = Qd (.bl (if neg then !decide (i = j) else decide (i = j))) g := rfl
theorem wR_eqS {i j : Str} {neg : Bool} : wR (dEq neg (.str i) (.str j) g) Qd X = Qd (.bl (if neg then !decide (i = j) else decide (i = j))) g := rfl
theorem wR_eqB {i j : Bool} {neg : Bool} : wR (dEq neg (.bl i) (.bl j) g) Qd X = Qd (.bl (if neg then !decide (i = j) else decide (i = j))) g := rfl
theorem wR_isN {d : D} {neg : Bool} : wR (dIsN neg d g) Qd X = Qd (.bl (if neg then !isN d else isN d)) g := rfl
theorem wR_lenL {xs : List D} : wR (dLen [.lst xs] g) Qd X = Qd (.int xs.length) g := rfl
theorem wR_lenT {xs : List D} : wR (dLen [.tup xs] g) Qd X = Qd (.int xs.length) g := rfl
theorem wR_listL {xs : List D} : wR (dListC [.lst xs] g) Qd X = Qd (.lst xs) g := rfl
theorem wR_listT {xs : List D} : wR (dListC [.tup xs] g) Qd X = Qd (.lst xs) g := rfl
theorem wR_tupL {xs : List D} : wR (dTupC [.lst xs] g) Qd X = Qd (.tup xs) g := rfl
theorem wR_tupT {xs : List D} : wR (dTupC [.tup xs] g) Qd X = Qd (.tup xs) g := rfl
/-- something or nothing -/
def onO {α : Type} (o : Option α) (Q : α → Prop) : Prop := match o with
  | some a => Q a
  | none => False
theorem onO_some {a : α} {Q : α → Prop} : onO (some a) Q = Q a := rfl
theorem wR_ixL {xs : List D} {i : Int} : wR (dIx (.lst xs) (.int i) g) Qd X = onO (atI xs i) fun d => Qd d g := by
  show wR (okO (atI xs i) g) Qd X = _
  rw [wR_okO]; rfl
theorem wR_ixT {xs : List D} {i : Int} : wR (dIx (.tup xs) (.int i) g) Qd X = onO (atI xs i) fun d => Qd d g := by
  show wR (okO (atI xs i) g) Qd X = _
  rw [wR_okO]; rfl
theorem wR_ixR {xs : List D} {n : Nat} {i : Int} (e : g[n]? = some (.lst xs)) : wR (dIx (.ref n) (.int i) g) Qd X = onO (atI xs i) fun d => Qd d g := by
  unfold dIx seqD
  simp only [e]
  rw [wR_okO]; rfl
theorem atI_nat {α : Type} {xs : List α} {i : Nat} : atI xs (i : Int) = xs[i]? := by
  unfold atI ixN
  by_cases h : i < xs.length
  · simp [h]
  · simp [h]
theorem sl_tup {xs : List D} {lo hi : Option Int} : wR (dSl (.tup xs) lo hi g) Qd X = Qd (.tup (cutD xs lo hi)) g := rfl
theorem sl_lst {xs : List D} {lo hi : Option Int} : wR (dSl (.lst xs) lo hi g) Qd X = Qd (.lst (cutD xs lo hi)) g := rfl
theorem sl_scr {xs : List Int} {lo hi : Option Int} : wR (dSl (.scr xs) lo hi g) Qd X = Qd (.lst (cutD (xs.map D.int) lo hi)) g := rfl
end
end FL

/-! FLB: the laws' bag of draws -/
namespace FL
open PySem PySem.Spec PyProof.Rows L2 FR
def bagC (xs : List Int) (i b s n : Int) : Cell := .lst [.lst (xs.map D.int), .int i, .int b, .int s, .int n]
def BagC (c : Cell) : Prop := ∃ xs i b s n, c = bagC xs i b s n ∧ 0 ≤ i ∧ -(2 ^ 64) < s ∧ s < 2 ^ 64
def BagAt (g : G) (k : Nat) : Prop := ∃ c, g[k]? = some c ∧ BagC c
theorem setCell_lst {g : G} {n : Nat} {xs : List D} {i : Int} {d : D} (e : g[n]? = some (.lst xs)) : setCell g (.ref n) (.int i) d = (ixN xs.length i).map fun j => g.set n (.lst (xs.set j d)) := by
  unfold setCell
  simp only [e]
theorem BagAt.set {g : G} {k : Nat} {c : Cell} (h : BagAt g k) (hc : BagC c) : BagAt (g.set k c) k := by
  obtain ⟨c0, h1, _⟩ := h
  exact ⟨c, List.getElem?_set_self (List.getElem?_eq_some_iff.mp h1).1, hc⟩
/-- what a draw of a number below m does: it gives one, and it changes the bag alone -/
def PullS (F : List D → G → Res D) : Prop := ∀ (k : Nat) (m : Int) (g : G) (Q : D → G → Prop) (X : Exn → G → Prop), BagAt g k → 0 < m → m < 1073741824 →
  (∀ (r : Int) (c : Cell), BagC c → 0 ≤ r → r < m → Q (.int r) (g.set k c)) → wR (F [.ref k, .int m] g) Q X
def OfS (F : List D → G → Res D) : Prop := ∀ (k : Nat) (ds : List D) (g : G) (Q : D → G → Prop) (X : Exn → G → Prop), BagAt g k → 0 < ds.length → ds.length < 1073741824 →
  (∀ (d : D) (c : Cell), BagC c → d ∈ ds → Q d (g.set k c)) → wR (F [.ref k, .lst ds] g) Q X
theorem ixN_nat {n i : Nat} (h : i < n) : ixN n (i : Int) = some i := by
  unfold ixN
  simp [h]
theorem atI_map {xs : List Int} {i : Int} (h0 : 0 ≤ i) (h1 : i < xs.length) : ∃ x, atI (xs.map D.int) i = some (.int x) := by
  obtain ⟨n, rfl⟩ := Int.eq_ofNat_of_zero_le h0
  refine ⟨xs[n]'(by omega), ?_⟩
  show atI (xs.map D.int) ((n : Nat) : Int) = _
  rw [atI_nat]
  have : n < xs.length := by omega
  simp [this]
theorem i50 (a b c d e : D) : atI [a, b, c, d, e] 0 = some a := rfl
theorem i51 (a b c d e : D) : atI [a, b, c, d, e] 1 = some b := rfl
theorem i52 (a b c d e : D) : atI [a, b, c, d, e] 2 = some c := rfl
theorem i53 (a b c d e : D) : atI [a, b, c, d, e] 3 = some d := rfl
theorem i54 (a b c d e : D) : atI [a, b, c, d, e] 4 = some e := rfl
theorem j51 : ixN 5 1 = some 1 := rfl
theorem j52 : ixN 5 2 = some 2 := rfl
theorem j53 : ixN 5 3 = some 3 := rfl
theorem j54 : ixN 5 4 = some 4 := rfl
theorem mod_lo {a m : Int} (h : 0 < m) : 0 ≤ a % m := Int.emod_nonneg _ (Int.ne_of_gt h)
theorem mod_hi {a m : Int} (h : 0 < m) : a % m < m := Int.emod_lt_of_pos _ h
theorem sd_ok {a : Int} : -(2 ^ 64) < a % 2147483629 ∧ a % 2147483629 < 2 ^ 64 := by
  have h1 := @mod_lo a 2147483629 (by decide)
  have h2 := @mod_hi a 2147483629 (by decide)
  omega
end FL

/-! FLC: plain facts -/
namespace FL
open PySem PySem.Spec PyProof.Rows L2 FR
theorem compF_pure {ft : D → G → Env → Option Env} {fif : Env → G → Res Bool} {fe : Env → G → Res D} {env : Env} {g : G} (f : D → D) : ∀ ds : List D, (∀ d ∈ ds, ∃ e, ft d g env = some e ∧ fif e g = .ok true g ∧ fe e g = .ok (f d) g) → compF ft fif fe env ds g = .ok (ds.map f) g
  | [], _ => rfl
  | d :: ds, h => by
    obtain ⟨e, h1, h2, h3⟩ := h d (List.mem_cons_self ..)
    have h4 := compF_pure f ds fun x hx => h x (List.mem_cons_of_mem _ hx)
    simp only [compF, h1, h2, h3, h4, List.map_cons]
theorem bools_map (p : D → Bool) : ∀ ds : List D, bools (ds.map fun d => D.bl (p d)) = some (ds.map p)
  | [] => rfl
  | d :: ds => by simp only [List.map_cons, bools, bools_map p ds, Option.map_some]
theorem wR_eq {α : Type} {r : Res α} {a : α} {g : G} (h : wR r (fun x g' => x = a ∧ g' = g) fun _ _ => False) : r = .ok a g := by
  cases r with
  | ok x g' => obtain ⟨rfl, rfl⟩ := h; rfl
  | exc _ _ => exact h.elim
  | stuck => exact h.elim
theorem eq_wR {α : Type} {r : Res α} {a : α} {g : G} {Q : α → G → Prop} {X : Exn → G → Prop} (e : r = .ok a g) : wR r Q X = Q a g := by rw [e]; rfl
theorem wR_all {p : D → Bool} {ds : List D} {g : G} {Q : D → G → Prop} {X : Exn → G → Prop} : wR (dAll [.lst (ds.map fun d => D.bl (p d))] g) Q X = Q (.bl (ds.all p)) g := by
  unfold dAll
  simp only [bools_map, wR_ok]
  congr 2
  induction ds with
  | nil => rfl
  | cons a b ih => simp
theorem of_of {Pl Of : List D → G → Res D} (hp : PullS Pl) (h : ∀ k ds g Q X, wR (Of [.ref k, .lst ds] g) Q X = wR (Pl [.ref k, .int ds.length] g) (fun r g => wR (dIx (.lst ds) r g) Q X) X) : OfS Of := fun k ds g Q X hb h0 h1 hQ => by
  rw [h]
  refine hp k _ g _ X hb (by omega) (by omega) fun r c hc hr hr2 => ?_
  obtain ⟨n, rfl⟩ := Int.eq_ofNat_of_zero_le hr
  have hn : n < ds.length := by omega
  rw [wR_ixL]
  show onO (atI ds ((n : Nat) : Int)) _
  rw [atI_nat, List.getElem?_eq_getElem hn]
  exact hQ _ c hc (List.getElem_mem hn)
theorem seqF_tup {xs : List D} : seqF (.tup xs) = some xs := rfl
theorem seqF_lst {xs : List D} : seqF (.lst xs) = some xs := rfl
theorem seqF_scr {xs : List Int} : seqF (.scr xs) = some (xs.map D.int) := rfl
theorem sz0 : (0 ≤ sizeLine) = True := eq_true (by decide)
theorem sz1 : (1 ≤ sizeLine) = True := eq_true (by decide)
theorem sz2 : (2 ≤ sizeLine) = True := eq_true (by decide)
theorem sz3 : (3 ≤ sizeLine) = True := eq_true (by decide)
theorem sz4 : (4 ≤ sizeLine) = True := eq_true (by decide)
theorem sz5 : (5 ≤ sizeLine) = True := eq_true (by decide)
theorem sz6 : (6 ≤ sizeLine) = True := eq_true (by decide)
theorem sz7 : (7 ≤ sizeLine) = True := eq_true (by decide)
theorem sz8 : (8 ≤ sizeLine) = True := eq_true (by decide)
theorem sz9 : (9 ≤ sizeLine) = True := eq_true (by decide)
theorem sz10 : (10 ≤ sizeLine) = True := eq_true (by decide)
theorem sz11 : (11 ≤ sizeLine) = True := eq_true (by decide)
theorem sz12 : (12 ≤ sizeLine) = True := eq_true (by decide)
theorem sz13 : (13 ≤ sizeLine) = True := eq_true (by decide)
theorem sz14 : (14 ≤ sizeLine) = True := eq_true (by decide)
theorem sz15 : (15 ≤ sizeLine) = True := eq_true (by decide)
theorem sz16 : (16 ≤ sizeLine) = True := eq_true (by decide)
/-- the built-in type of what stays -/
def tyF : D → Option String
  | .non => some "NoneType"
  | .bl _ => some "bool"
  | .int _ => some "int"
  | .str _ => some "str"
  | .tup _ => some "tuple"
  | .lst _ => some "list"
  | .dct _ => some "dict"
  | _ => none
theorem wR_isi {ns : List String} {d : D} {t : String} {g : G} {Q : D → G → Prop} {X : Exn → G → Prop} (h : tyF d = some t) : wR (dIsi ns d g) Q X = Q (.bl (ns.any fun b => subT t b)) g := by
  unfold dIsi
  have : tyD g d = some t := by cases d <;> first | exact h | cases h
  rw [this]; rfl
theorem isi_non {ns : List String} {g : G} {Q : D → G → Prop} {X : Exn → G → Prop} : wR (dIsi ns .non g) Q X = Q (.bl (ns.any (subT "NoneType"))) g := rfl
theorem sub_non_int : subT "NoneType" "int" = false := by decide
theorem sub_non_bool : subT "NoneType" "bool" = false := by decide
theorem sub_non_str : subT "NoneType" "str" = false := by decide
theorem sub_non_tuple : subT "NoneType" "tuple" = false := by decide
theorem sub_non_list : subT "NoneType" "list" = false := by decide
theorem sub_non_dict : subT "NoneType" "dict" = false := by decide
theorem isi_bl {b : Bool} {ns : List String} {g : G} {Q : D → G → Prop} {X : Exn → G → Prop} : wR (dIsi ns (.bl b) g) Q X = Q (.bl (ns.any (subT "bool"))) g := rfl
theorem sub_bl_int : subT "bool" "int" = true := by decide
theorem sub_bl_bool : subT "bool" "bool" = true := by decide
theorem sub_bl_str : subT "bool" "str" = false := by decide
theorem sub_bl_tuple : subT "bool" "tuple" = false := by decide
theorem sub_bl_list : subT "bool" "list" = false := by decide
theorem sub_bl_dict : subT "bool" "dict" = false := by decide
theorem isi_int {b : Int} {ns : List String} {g : G} {Q : D → G → Prop} {X : Exn → G → Prop} : wR (dIsi ns (.int b) g) Q X = Q (.bl (ns.any (subT "int"))) g := rfl
theorem sub_int_int : subT "int" "int" = true := by decide
theorem sub_int_bool : subT "int" "bool" = false := by decide
theorem sub_int_str : subT "int" "str" = false := by decide
theorem sub_int_tuple : subT "int" "tuple" = false := by decide
theorem sub_int_list : subT "int" "list" = false := by decide
theorem sub_int_dict : subT "int" "dict" = false := by decide
theorem isi_str {b : Str} {ns : List String} {g : G} {Q : D → G → Prop} {X : Exn → G → Prop} : wR (dIsi ns (.str b) g) Q X = Q (.bl (ns.any (subT "str"))) g := rfl
theorem sub_str_int : subT "str" "int" = false := by decide
theorem sub_str_bool : subT "str" "bool" = false := by decide
theorem sub_str_str : subT "str" "str" = true := by decide
theorem sub_str_tuple : subT "str" "tuple" = false := by decide
theorem sub_str_list : subT "str" "list" = false := by decide
theorem sub_str_dict : subT "str" "dict" = false := by decide
theorem isi_tup {b : List D} {ns : List String} {g : G} {Q : D → G → Prop} {X : Exn → G → Prop} : wR (dIsi ns (.tup b) g) Q X = Q (.bl (ns.any (subT "tuple"))) g := rfl
theorem sub_tup_int : subT "tuple" "int" = false := by decide
theorem sub_tup_bool : subT "tuple" "bool" = false := by decide
theorem sub_tup_str : subT "tuple" "str" = false := by decide
theorem sub_tup_tuple : subT "tuple" "tuple" = true := by decide
theorem sub_tup_list : subT "tuple" "list" = false := by decide
theorem sub_tup_dict : subT "tuple" "dict" = false := by decide
theorem isi_lst {b : List D} {ns : List String} {g : G} {Q : D → G → Prop} {X : Exn → G → Prop} : wR (dIsi ns (.lst b) g) Q X = Q (.bl (ns.any (subT "list"))) g := rfl
theorem sub_lst_int : subT "list" "int" = false := by decide
theorem sub_lst_bool : subT "list" "bool" = false := by decide
theorem sub_lst_str : subT "list" "str" = false := by decide
theorem sub_lst_tuple : subT "list" "tuple" = false := by decide
theorem sub_lst_list : subT "list" "list" = true := by decide
theorem sub_lst_dict : subT "list" "dict" = false := by decide
theorem isi_dct {b : List (Key × D)} {ns : List String} {g : G} {Q : D → G → Prop} {X : Exn → G → Prop} : wR (dIsi ns (.dct b) g) Q X = Q (.bl (ns.any (subT "dict"))) g := rfl
theorem sub_dct_int : subT "dict" "int" = false := by decide
theorem sub_dct_bool : subT "dict" "bool" = false := by decide
theorem sub_dct_str : subT "dict" "str" = false := by decide
theorem sub_dct_tuple : subT "dict" "tuple" = false := by decide
theorem sub_dct_list : subT "dict" "list" = false := by decide
theorem sub_dct_dict : subT "dict" "dict" = true := by decide
theorem wR_inK {w : Str} {kvs : List (Key × D)} {neg : Bool} {g : G} {Q : D → G → Prop} {X : Exn → G → Prop} : wR (dIn neg (.str w) (.dct kvs) g) Q X = Q (.bl (if neg then !(lookK kvs (.inr w)).isSome else (lookK kvs (.inr w)).isSome)) g := rfl
theorem wR_inKI {w : Int} {kvs : List (Key × D)} {neg : Bool} {g : G} {Q : D → G → Prop} {X : Exn → G → Prop} : wR (dIn neg (.int w) (.dct kvs) g) Q X = Q (.bl (if neg then !(lookK kvs (.inl w)).isSome else (lookK kvs (.inl w)).isSome)) g := rfl
theorem wR_ixK {w : Str} {kvs : List (Key × D)} {g : G} {Q : D → G → Prop} {X : Exn → G → Prop} : wR (dIx (.dct kvs) (.str w) g) Q X = onO (lookK kvs (.inr w)) fun d => Q d g := by
  show wR (okO (lookK kvs (.inr w)) g) Q X = _
  rw [wR_okO]; rfl
theorem wR_ixKI {w : Int} {kvs : List (Key × D)} {g : G} {Q : D → G → Prop} {X : Exn → G → Prop} : wR (dIx (.dct kvs) (.int w) g) Q X = onO (lookK kvs (.inl w)) fun d => Q d g := by
  show wR (okO (lookK kvs (.inl w)) g) Q X = _
  rw [wR_okO]; rfl
theorem lookK_hit {k : Key} {v : D} {kvs : List (Key × D)} : lookK ((k, v) :: kvs) k = some v := by
  simp [lookK]
theorem lookK_miss {k k' : Key} {v : D} {kvs : List (Key × D)} (h : k' ≠ k) : lookK ((k', v) :: kvs) k = lookK kvs k := by
  simp [lookK, h]
theorem lookK_nil {k : Key} : lookK ([] : List (Key × D)) k = none := rfl
theorem wR_addT {xs ys : List D} {g : G} {Q : D → G → Prop} {X : Exn → G → Prop} : wR (dAdd (.tup xs) (.tup ys) g) Q X = (xs.length + ys.length ≤ sizeLine ∧ Q (.tup (xs ++ ys)) g) := by
  show wR (if _ then _ else _) _ _ = _
  rw [wR_ite, wR_ok, wR_stuck, ite_f]
theorem wR_addL {xs ys : List D} {g : G} {Q : D → G → Prop} {X : Exn → G → Prop} : wR (dAdd (.lst xs) (.lst ys) g) Q X = (xs.length + ys.length ≤ sizeLine ∧ Q (.lst (xs ++ ys)) g) := by
  show wR (if _ then _ else _) _ _ = _
  rw [wR_ite, wR_ok, wR_stuck, ite_f]
theorem mem_cutD {x : D} {xs : List D} {lo hi : Option Int} (h : x ∈ cutD xs lo hi) : x ∈ xs := List.mem_of_mem_drop (List.mem_of_mem_take h)
theorem length_cutD {xs : List D} {lo hi : Option Int} : (cutD xs lo hi).length ≤ xs.length := by
  unfold cutD
  rw [List.length_take, List.length_drop]
  omega
theorem mem_zipSelf {d : D} : ∀ {xs : List D}, d ∈ zipD xs xs → ∃ x ∈ xs, d = .tup [x, x]
  | [], h => by simp [zipD] at h
  | x :: xs, h => by
    simp only [zipD, List.mem_cons] at h
    rcases h with rfl | h
    · exact ⟨x, List.mem_cons_self .., rfl⟩
    · obtain ⟨y, hy, e⟩ := mem_zipSelf h
      exact ⟨y, List.mem_cons_of_mem _ hy, e⟩
/-- a tree of None, bools, ints, texts, tuples, lists, less deep than n -/
def treeD : Nat → D → Prop
  | 0, _ => False
  | _ + 1, .non => True
  | _ + 1, .bl _ => True
  | _ + 1, .int _ => True
  | _ + 1, .str _ => True
  | n + 1, .tup xs => xs.length ≤ sizeLine ∧ ∀ x ∈ xs, treeD n x
  | n + 1, .lst xs => xs.length ≤ sizeLine ∧ ∀ x ∈ xs, treeD n x
  | _ + 1, _ => False
theorem wR_all_true {n : Nat} {ds : List D} {g : G} {Q : D → G → Prop} {X : Exn → G → Prop} : wR (dAll [.lst (ds.map fun _ => D.bl true)] g) Q X = Q (.bl true) g := by
  rw [wR_all (p := fun _ => true)]
  congr 2
  induction ds with
  | nil => rfl
  | cons a b ih => simp
theorem cut_ints (ns : List Int) (lo hi : Option Int) : ∃ ys : List Int, cutD (ns.map D.int) lo hi = ys.map D.int := by
  unfold cutD
  rw [← List.map_drop, ← List.map_take]
  exact ⟨_, rfl⟩
theorem bag_new (ns : List Int) : BagC (.lst [.lst (cutD (ns.map D.int) none (some 63)), .int 0, .int 0, .int 5763, .int 0]) := by
  obtain ⟨ys, e⟩ := cut_ints ns none (some 63)
  rw [e]
  exact ⟨ys, 0, 0, 5763, 0, rfl, by decide, by decide, by decide⟩
theorem BagAt.push {g : G} {c : Cell} (h : BagC c) : BagAt (g ++ [c]) g.length := ⟨c, by simp, h⟩
theorem wO_star1 {r : List D → G → Env → Option Env} {x : D} {ns : List D} {g : G} {env : Env} {Q : Env → Prop} : wO (gStarF r 2 1 (.tup (x :: ns)) g env) Q = wO (r [x, .lst ns] g env) Q := by
  show wO (if 2 ≤ ns.length + 1 + 1 then r ([x] ++ [.lst (ns.take (ns.length + 1 + 1 - 2))] ++ ns.drop (ns.length + 1 + 1 - 2)) g env else none) Q = _
  have h1 : ns.length + 1 + 1 - 2 = ns.length := by omega
  rw [if_pos (by omega), h1, List.take_length, List.drop_length]
  rfl
theorem wR_of {α : Type} {r : Res α} {a : α} {g : G} {Q : α → G → Prop} {X : Exn → G → Prop} (e : r = .ok a g) (h : Q a g) : wR r Q X := by rw [e]; exact h
theorem wR_inF {x : D} {xs : List D} {neg : Bool} {g : G} {Q : D → G → Prop} {X : Exn → G → Prop} (h : flatD x = true ∧ xs.all flatD = true) : wR (dIn neg x (.tup xs) g) Q X = Q (.bl (if neg then !inF x xs else inF x xs)) g := by
  show wR (if _ then _ else _) Q X = _
  rw [if_pos h]; rfl
theorem atI_zero {α : Type} {x : α} {xs : List α} : atI (x :: xs) 0 = some x := by
  have := @atI_nat α (x :: xs) 0
  simpa using this
theorem atI_one {α : Type} {x y : α} {xs : List α} : atI (x :: y :: xs) 1 = some y := by
  have := @atI_nat α (x :: y :: xs) 1
  simpa using this
theorem atI_two {α : Type} {x y z : α} {xs : List α} : atI (x :: y :: z :: xs) 2 = some z := by
  have := @atI_nat α (x :: y :: z :: xs) 2
  simpa using this
/-- xs[1:] of a tuple -/
theorem cut1 {x : D} {xs : List D} : cutD (x :: xs) (some 1) none = xs := by
  unfold cutD
  have h1 : HT.sIx (x :: xs).length 0 (some 1) = 1 := by
    have := HT.sIx_nat (x :: xs).length 0 1
    simpa using this
  rw [h1]
  show List.take ((x :: xs).length - 1) xs = xs
  simp
end FL

/-! FLE: a law's end -/
namespace FL
open PySem PySem.Spec PyProof.Rows L2 FR
theorem walk_F {l : PySem.W.OpenLaw} {n k : Nat} {q : Program} {loose : List Str} {XP : (Str → Option Value) → Heap → Prop} {YP : PySem.World → Heap → Prop} {d : DefRec} {x : Str}
    (hn : l.most = some n) (hn2 : n ≤ sizeLine) (hdf : d.params.defaults = []) (hr : Room k callerA)
    (F : ∀ (w : PySem.World) (mg : Str → Option Value) (fa : Addr) (h : Heap), YP w h → h.Ns mainGlobals mg → mg d.name = some (.ref fa) →
      ∃ (K : PySem.W.Frag) (fd : FuncData) (sp : Sp), K.In h ∧ (∀ (s : Shared) (u : Value), BindsTo s fd ⟨[u], []⟩ [(x, u)]) ∧
        (∀ (H : Hp) (a : Addr) (ns : List Int), ns.length ≤ n → Only H → SqL K H a (ns.map V.int) → sp [.ref a] H (fun v _ => v = .bl true) fun _ _ _ => False) ∧
        ∀ base : Heap, K.In base → base.Ns mainGlobals mg → FnOk l.prog w K mg base (L2.CX l.prog w) k fa fd [x] sp) :
    PySem.W.WalkO q loose XP YP l.row.toRowW d [] (fun f vs => PySem.call f vs) := by
  refine Att.attach_call hn hdf fun w s₀ s₁ mg mb fa o pm cd doc a vs ns G Y ho hd hcd hmg hobj hints hlen hg => ?_
  obtain ⟨K, fd, sp, KX, hb, hsp, hF⟩ := F w mg fa _ Y G.T.g hmg
  exact law_call KX G.T.g G.T.b G.T.builtins G.T.nolimit hg hobj hints (Nat.le_trans hlen hn2) hr hF hb (fun H hO hS => hsp H a ns hlen hO hS) fun H e s' h => by
    obtain ⟨_, _, _, _, _, _, _, _, _, _, _, _, z⟩ := h
    exact z
theorem law_end {K : PySem.W.Frag} {cls : Str → Addr} {Fn : List D → G → Res D} (h : ∀ ns : List Int, ∃ g, Fn [.scr ns] [] = .ok (.bl true) g) {H : Hp} {a : Addr} {ns : List Int} (hS : SqL K H a (ns.map V.int)) :
    spF K cls 1 Fn [.ref a] H (fun v _ => v = .bl true) fun _ _ _ => False := by
  obtain ⟨g, e⟩ := h ns
  refine ⟨rfl, [], H, [], [.scr ns], ⟨rfl, fun n c a h => (by simp at h), fun n c a h => (by simp at h), fun n n' c c' a h => (by simp at h), fun a o h => h⟩, .cons (.scr hS) .nil, ?_⟩
  rw [e]
  intro v m F H' s w r
  cases r
  rfl
end FL
namespace FL
open PySem PySem.Spec PyProof.Rows L2 FR
def b__law_pull : Env → G → SRes :=
  (fSeq (fStore (f2 dAdd (f2 dIx (fVar 0) (fC (.int 4))) (fC (.int 1))) (fVar 0) (fC (.int 4))) (fSeq (fIfS (fAndT (fTest (f2 (dEq false) (f2 dIx (fVar 0) (fC (.int 2))) (fC (.int 0)))) (fTest (f2 dLt (f2 dIx (fVar 0) (fC (.int 1))) (fCall dLen (fConsA (f2 dIx (fVar 0) (fC (.int 0))) fNilA))))) (fSeq (fAsg (f2 dIx (f2 dIx (fVar 0) (fC (.int 0))) (f2 dIx (fVar 0) (fC (.int 1)))) (gSet 2)) (fSeq (fStore (f2 dAdd (f2 dIx (fVar 0) (fC (.int 1))) (fC (.int 1))) (fVar 0) (fC (.int 1))) (fIfS (fTest (f2 dGe (fCall dAbs (fConsA (fVar 2) fNilA)) (f2 dPow (fC (.int 10)) (fC (.int 18))))) (fStore (fCall dAbs (fConsA (fVar 2) fNilA)) (fVar 0) (fC (.int 2))) (fSeq (fAsg (f2 dAdd (f2 dMul (f2 dMod (fCall dIntC (fConsA (fVar 2) fNilA)) (fC (.int 1000000007))) (fC (.int 27751))) (fC (.int 43))) (gSet 3)) (fStore (f2 dMod (fCall dIntC (fConsA (f2 dAdd (f2 dMul (f2 dIx (fVar 0) (fC (.int 3))) (fC (.int 38737))) (fVar 3)) fNilA)) (fC (.int 2147483629))) (fVar 0) (fC (.int 3))))))) fNext) (fSeq (fIfS (fTest (f2 dGt (f2 dIx (fVar 0) (fC (.int 2))) (fC (.int 0)))) (fSeq (fAsg (f2 dMod (fCall dIntC (fConsA (f2 dIx (fVar 0) (fC (.int 2))) fNilA)) (fVar 1)) (gSet 4)) (fSeq (fStore (f2 dDiv (f2 dIx (fVar 0) (fC (.int 2))) (fVar 1)) (fVar 0) (fC (.int 2))) (fRet (fVar 4)))) fNext) (fSeq (fAsg (f2 dIx (fVar 0) (fC (.int 3))) (gSet 5)) (fSeq (fAsg (f2 dAdd (f2 dAdd (f2 dMul (fVar 5) (fC (.int 52361))) (f2 dMul (f2 dIx (fVar 0) (fC (.int 4))) (fC (.int 104729)))) (fC (.int 90001))) (gSet 6)) (fSeq (fStore (f2 dMod (fCall dIntC (fConsA (f2 dAdd (f2 dMul (f2 dMul (fVar 5) (fVar 5)) (fC (.int 13))) (fVar 6)) fNilA)) (fC (.int 2147483629))) (fVar 0) (fC (.int 3))) (fRet (f2 dMod (fCall dIntC (fConsA (f2 dAdd (f2 dDiv (f2 dIx (fVar 0) (fC (.int 3))) (fC (.int 89))) (f2 dMul (f2 dMod (fCall dIntC (fConsA (f2 dIx (fVar 0) (fC (.int 3))) fNilA)) (fC (.int 7927))) (fC (.int 71)))) fNilA)) (fVar 1)))))))))
def F__law_pull : List D → G → Res D := bodyF 2 7 b__law_pull
def b__law_key : Env → G → SRes :=
  (fSeq (fAsg (fCall F__law_pull (fConsA (fVar 0) (fConsA (fC (.int 12)) fNilA))) (gSet 1)) (fSeq (fIfS (fTest (f2 (dEq false) (fVar 1) (fC (.int 0)))) (fRet (f2 dSub (f2 dPow (fC (.int 10)) (fC (.int 29))) (fCall F__law_pull (fConsA (fVar 0) (fConsA (fC (.int 9)) fNilA))))) fNext) (fSeq (fIfS (fTest (f2 (dEq false) (fVar 1) (fC (.int 1)))) (fRet (f2 dSub (fCall F__law_pull (fConsA (fVar 0) (fConsA (fC (.int 9)) fNilA))) (f2 dPow (fC (.int 10)) (fC (.int 29))))) fNext) (fRet (f2 dSub (fCall F__law_pull (fConsA (fVar 0) (fConsA (fC (.int 14)) fNilA))) (fC (.int 4)))))))
def F__law_key : List D → G → Res D := bodyF 1 2 b__law_key
def b__law_of : Env → G → SRes :=
  (fRet (f2 dIx (fVar 1) (fCall F__law_pull (fConsA (fVar 0) (fConsA (fCall dLen (fConsA (fVar 1) fNilA)) fNilA)))))
def F__law_of : List D → G → Res D := bodyF 2 2 b__law_of
def b__law_ask : Env → G → SRes :=
  (fSeq (fPar 1 2 (fConsA (fCall F__law_of (fConsA (fVar 0) (fConsA (fLst (fConsA (fC (.str "get")) (fConsA (fC (.str "walk")) (fConsA (fC (.str "put")) (fConsA (fC (.str "strike")) (fConsA (fC (.str "put")) (fConsA (fC (.str "walk")) fNilA))))))) fNilA))) (fConsA (fCall F__law_key (fConsA (fVar 0) fNilA)) fNilA))) (fSeq (fIfS (fTest (f2 (dEq false) (fVar 1) (fC (.str "walk")))) (fRet (fTup (fConsA (fC (.str "walk")) (fConsA (fVar 2) (fConsA (f2 dAdd (fVar 2) (fCall F__law_of (fConsA (fVar 0) (fConsA (fLst (fConsA (fC (.int 0)) (fConsA (fCall F__law_pull (fConsA (fVar 0) (fConsA (fC (.int 12)) fNilA))) (fConsA (fCall F__law_pull (fConsA (fVar 0) (fConsA (fC (.int 12)) fNilA))) (fConsA (f2 dPow (fC (.int 10)) (fC (.int 28))) fNilA))))) fNilA)))) fNilA))))) fNext) (fRet (fIf (fTest (f2 (dEq false) (fVar 1) (fC (.str "put")))) (fTup (fConsA (fC (.str "put")) (fConsA (fVar 2) (fConsA (f2 dSub (fCall F__law_pull (fConsA (fVar 0) (fConsA (fC (.int 90)) fNilA))) (fC (.int 20))) fNilA)))) (fTup (fConsA (fVar 1) (fConsA (fVar 2) fNilA)))))))
def F__law_ask : List D → G → Res D := bodyF 1 3 b__law_ask
def b__law_bag : Env → G → SRes :=
  (fRet (fCellL (fConsA (fCall dListC (fConsA (fSlice (fVar 0) fNoPart (fPart (fC (.int 63)))) fNilA)) (fConsA (fC (.int 0)) (fConsA (fC (.int 0)) (fConsA (fC (.int 5763)) (fConsA (fC (.int 0)) fNilA)))))))
def F__law_bag : List D → G → Res D := bodyF 1 1 b__law_bag
def b__law_is_key : Env → G → SRes :=
  (fSeq (fAsg (fAndV (f1 (dIsi ["int"]) (fVar 0)) (fNotV (f1 (dIsi ["bool"]) (fVar 0)))) (gSet 1)) (fRet (fAndV (fVar 1) (f2 dLt (fCall dAbs (fConsA (fVar 0) fNilA)) (f2 dPow (fC (.int 10)) (fC (.int 30)))))))
def F__law_is_key : List D → G → Res D := bodyF 1 2 b__law_is_key
def b__law_is_ask : Env → G → SRes :=
  (fSeq (fIfS (fOrT (fNotT (fTest (f1 (dIsi ["tuple"]) (fVar 0)))) (fOrT (fTest (f2 dLt (fCall dLen (fConsA (fVar 0) fNilA)) (fC (.int 2)))) (fNotT (fTest (f1 (dIsi ["str"]) (f2 dIx (fVar 0) (fC (.int 0)))))))) (fRet (fC (.bl false))) fNext) (fSeq (fIfS (fNotT (fTest (fCall dAll (fConsA (fLc (fSeqI (fSlice (fVar 0) (fPart (fC (.int 1))) fNoPart)) (gSet 2) fYes (fCall F__law_is_key (fConsA (fVar 2) fNilA)) [2]) fNilA)))) (fRet (fC (.bl false))) fNext) (fSeq (fAsg (fDisp [((fC (.str "get")), (fC (.int 2))), ((fC (.str "strike")), (fC (.int 2))), ((fC (.str "put")), (fC (.int 3))), ((fC (.str "walk")), (fC (.int 3)))]) (gSet 1)) (fSeq (fIfS (fOrT (fTest (f2 (dIn true) (f2 dIx (fVar 0) (fC (.int 0))) (fVar 1))) (fTest (f2 (dEq true) (f2 dIx (fVar 1) (f2 dIx (fVar 0) (fC (.int 0)))) (fCall dLen (fConsA (fVar 0) fNilA))))) (fRet (fC (.bl false))) fNext) (fRet (fOrV (f2 (dEq true) (f2 dIx (fVar 0) (fC (.int 0))) (fC (.str "walk"))) (f2 dLe (f2 dIx (fVar 0) (fC (.int 1))) (f2 dIx (fVar 0) (fC (.int 2))))))))))
def F__law_is_ask : List D → G → Res D := bodyF 1 3 b__law_is_ask
def b__law_same (Self : List D → G → Res D) : Env → G → SRes :=
  (fSeq (fIfS (fOrT (fTest (f1 (dIsN false) (fVar 1))) (fTest (f1 (dIsN false) (fVar 0)))) (fRet (fAndV (f1 (dIsN false) (fVar 1)) (f1 (dIsN false) (fVar 0)))) fNext) (fSeq (fIfS (fOrT (fTest (f1 (dIsi ["bool"]) (fVar 1))) (fTest (f1 (dIsi ["bool"]) (fVar 0)))) (fRet (fAndV (f1 (dIsi ["bool"]) (fVar 1)) (fAndV (f1 (dIsi ["bool"]) (fVar 0)) (f2 (dEq false) (fVar 0) (fVar 1))))) fNext) (fSeq (fIfS (fOrT (fTest (f1 (dIsi ["list", "tuple"]) (fVar 1))) (fTest (f1 (dIsi ["list", "tuple"]) (fVar 0)))) (fSeq (fIfS (fTest (f2 (dEq true) (f1 (dIsi ["list"]) (fVar 1)) (f1 (dIsi ["list"]) (fVar 0)))) (fRet (fC (.bl false))) fNext) (fSeq (fIfS (fOrT (fTest (f2 (dEq true) (f1 (dIsi ["tuple"]) (fVar 1)) (f1 (dIsi ["tuple"]) (fVar 0)))) (fTest (f2 (dEq true) (fCall dLen (fConsA (fVar 0) fNilA)) (fCall dLen (fConsA (fVar 1) fNilA))))) (fRet (fC (.bl false))) fNext) (fRet (fCall dAll (fConsA (fLc (fZip (fConsA (fVar 0) (fConsA (fVar 1) fNilA))) (gTupF (gConss (gSet 2) (gConss (gSet 3) gNils)) 2) fYes (fCall Self (fConsA (fVar 2) (fConsA (fVar 3) fNilA))) [2, 3]) fNilA))))) fNext) (fSeq (fIfS (fTest (f2 (dEq true) (f1 (dIsi ["int"]) (fVar 1)) (f1 (dIsi ["int"]) (fVar 0)))) (fRet (fC (.bl false))) fNext) (fRet (fAndV (f2 (dEq false) (f1 (dIsi ["str"]) (fVar 1)) (f1 (dIsi ["str"]) (fVar 0))) (f2 (dEq false) (fVar 0) (fVar 1))))))))
def R__law_same : Nat → List D → G → Res D
  | 0 => fun _ _ => .stuck
  | n + 1 => bodyF 2 4 (b__law_same (R__law_same n))
def F__law_same : List D → G → Res D := R__law_same 12
def b_is_number : Env → G → SRes :=
  (fRet (fAndV (f1 (dIsi ["int"]) (fVar 0)) (fNotV (f1 (dIsi ["bool"]) (fVar 0)))))
def F_is_number : List D → G → Res D := bodyF 1 1 b_is_number
def b_is_key : Env → G → SRes :=
  (fRet (fAndV (fCall F_is_number (fConsA (fVar 0) fNilA)) (f2 dLt (fCall dAbs (fConsA (fVar 0) fNilA)) (fC (.int 1000000000000000000000000000000)))))
def F_is_key : List D → G → Res D := bodyF 1 1 b_is_key
def b_is_ask : Env → G → SRes :=
  (fSeq (fIfS (fOrT (fNotT (fTest (f1 (dIsi ["tuple"]) (fVar 0)))) (fOrT (fTest (f2 (dEq false) (fCall dLen (fConsA (fVar 0) fNilA)) (fC (.int 0)))) (fNotT (fTest (f1 (dIsi ["str"]) (f2 dIx (fVar 0) (fC (.int 0)))))))) (fRet (fC (.bl false))) fNext) (fSeq (fAsg (fVar 0) (gStarF (gConss (gSet 1) (gConss (gSet 2) gNils)) 2 1)) (fSeq (fIfS (fNotT (fTest (fCall dAll (fConsA (fLc (fSeqI (fVar 2)) (gSet 3) fYes (fCall F_is_key (fConsA (fVar 3) fNilA)) [3]) fNilA)))) (fRet (fC (.bl false))) fNext) (fSeq (fIfS (fTest (f2 (dIn false) (fVar 1) (fTup (fConsA (fC (.str "get")) (fConsA (fC (.str "strike")) fNilA))))) (fRet (f2 (dEq false) (fCall dLen (fConsA (fVar 2) fNilA)) (fC (.int 1)))) fNext) (fSeq (fIfS (fTest (f2 (dEq false) (fVar 1) (fC (.str "put")))) (fRet (f2 (dEq false) (fCall dLen (fConsA (fVar 2) fNilA)) (fC (.int 2)))) fNext) (fRet (fAndV (f2 (dEq false) (fVar 1) (fC (.str "walk"))) (fAndV (f2 (dEq false) (fCall dLen (fConsA (fVar 2) fNilA)) (fC (.int 2))) (f2 dLe (f2 dIx (fVar 2) (fC (.int 0))) (f2 dIx (fVar 2) (fC (.int 1))))))))))))
def F_is_ask : List D → G → Res D := bodyF 1 4 b_is_ask
def b_law : Env → G → SRes :=
  (fSeq (fAsg (fCall F__law_bag (fConsA (fVar 0) fNilA)) (gSet 1)) (fSeq (fFor (fRange1 (fConsA (fC (.int 8)) fNilA)) (gSet 2) (fSeq (fAsg (fCall F__law_ask (fConsA (fVar 1) fNilA)) (gSet 3)) (fSeq (fAsg (fCall F__law_pull (fConsA (fVar 1) (fConsA (fCall dLen (fConsA (fVar 3) fNilA)) fNilA))) (gSet 4)) (fSeq (fAsg (fCall F__law_of (fConsA (fVar 1) (fConsA (fLst (fConsA (fC .non) (fConsA (fC (.bl true)) (fConsA (fC (.str "walk")) (fConsA (fC (.str "put")) (fConsA (fC (.str "get")) (fConsA (f2 dPow (fC (.int 10)) (fC (.int 30))) (fConsA (f1 dNeg (f2 dPow (fC (.int 10)) (fC (.int 30)))) (fConsA (f2 dSub (f2 dPow (fC (.int 10)) (fC (.int 30))) (fC (.int 1))) (fConsA (fC (.str "")) (fConsA (f1 dNeg (fC (.int 7))) (fConsA (fTup (fConsA (fC (.int 1)) fNilA)) (fConsA (fLst (fConsA (fC (.int 1)) fNilA)) fNilA))))))))))))) fNilA))) (gSet 5)) (fSeq (fAsg (fLst (fConsA (fVar 3) (fConsA (f2 dAdd (f2 dAdd (fSlice (fVar 3) fNoPart (fPart (fVar 4))) (fTup (fConsA (fVar 5) fNilA))) (fSlice (fVar 3) (fPart (f2 dAdd (fVar 4) (fC (.int 1)))) fNoPart)) (fConsA (f2 dAdd (fVar 3) (fTup (fConsA (fVar 5) fNilA))) (fConsA (f2 dAdd (fSlice (fVar 3) fNoPart (fPart (fVar 4))) (fSlice (fVar 3) (fPart (f2 dAdd (fVar 4) (fC (.int 1)))) fNoPart)) (fConsA (fCall dListC (fConsA (fVar 3) fNilA)) (fConsA (fVar 5) (fConsA (fTup fNilA) fNilA)))))))) (gSet 6)) (fSeq (fAsg (fCall F__law_of (fConsA (fVar 1) (fConsA (fVar 6) fNilA))) (gSet 7)) (fIfS (fNotT (fTest (fCall F__law_same (fConsA (fLst (fConsA (fCall F_is_ask (fConsA (fVar 7) fNilA)) (fConsA (fCall F_is_key (fConsA (fVar 5) fNilA)) fNilA))) (fConsA (fLst (fConsA (fCall F__law_is_ask (fConsA (fVar 7) fNilA)) (fConsA (fCall F__law_is_key (fConsA (fVar 5) fNilA)) fNilA))) fNilA))))) (fRet (fC (.bl false))) fNext))))))) (fSeq (fAsg (fLst (fConsA (fCall F_is_ask (fConsA (fTup (fConsA (fC (.str "walk")) (fConsA (fC (.int 3)) (fConsA (fC (.int 3)) fNilA)))) fNilA)) (fConsA (fCall F_is_ask (fConsA (fTup (fConsA (fC (.str "walk")) (fConsA (fC (.int 3)) (fConsA (fC (.int 2)) fNilA)))) fNilA)) (fConsA (fCall F_is_ask (fConsA (fTup (fConsA (fC (.str "get")) (fConsA (f1 dNeg (fC (.int 5))) fNilA))) fNilA)) (fConsA (fCall F_is_key (fConsA (fC (.int 0)) fNilA)) (fConsA (fCall F_is_key (fConsA (fC (.str "0")) fNilA)) fNilA)))))) (gSet 8)) (fRet (fCall F__law_same (fConsA (fVar 8) (fConsA (fLst (fConsA (fC (.bl true)) (fConsA (fC (.bl false)) (fConsA (fC (.bl true)) (fConsA (fC (.bl true)) (fConsA (fC (.bl false)) fNilA)))))) fNilA)))))))
def F_law : List D → G → Res D := bodyF 1 9 b_law
end FL
namespace FL
open PySem PySem.Spec PyProof.Rows L2 FR
theorem pull_ok : PullS F__law_pull := fun k m g Q X hb hm hm2 hQ => by
  obtain ⟨c, hk, xs, i, b, s, n, rfl, hi, hs⟩ := hb
  have hl : k < g.length := (List.getElem?_eq_some_iff.mp hk).1
  have gs : ∀ c : Cell, (g.set k c)[k]? = some c := fun c => List.getElem?_set_self hl
  unfold F__law_pull b__law_pull
  rw [wR_body]
  refine ⟨rfl, ?_⟩
  unfold bagC at hk
  have sE : ∀ a b : D, startE 7 [a, b] = [.val a, .val b, .un, .un, .un, .un, .un] := fun _ _ => rfl
  have fin : ∀ (r : Int) (xs : List Int) (i b s n : Int), 0 ≤ i → (-(2 ^ 64) < s ∧ s < 2 ^ 64) → Q (.int (r % m)) (g.set k (.lst [.lst (xs.map D.int), .int i, .int b, .int s, .int n])) :=
    fun r xs i b s n h1 h2 => hQ _ _ ⟨xs, i, b, s, n, rfl, h1, h2⟩ (mod_lo hm) (mod_hi hm)
  by_cases hc : b = 0 ∧ i < xs.length
  · obtain ⟨x, hx⟩ := atI_map hi hc.2
    obtain ⟨hb0, hil⟩ := hc
    subst hb0
    simp only [wS_seq, wS_store, wS_if, wS_asg, wS_ret, wS_fNext, wR_test, wR_asB, wR_andT, wR_call, wR_consA, wR_nilA, wR_lenL, wR_abs, wR_intC, wR_mod, wR_mul, wR_div, wR_pow, wR_lt, wR_ge, wR_gt, wR_eqI, wR_2, wR_var, wR_c, sE, List.length_cons, List.length_nil, List.map_cons, List.map_nil, List.cons_append, List.nil_append, List.getElem?_cons_zero, List.getElem?_cons_succ, wR_ixR hk, wR_ixL, wR_add, setCell_lst hk, wR_ixR (gs _), setCell_lst (gs _), List.set_set, i50, i51, i52, i53, i54, onO_some, List.set_cons_zero, List.set_cons_succ, Nat.reduceAdd, j51, j52, j53, j54, Option.map_some, wO_set, decide_eq_true_eq, Bool.false_eq_true, if_false, if_true, List.length_map, hx, hil]
    repeat' first | split | apply And.intro
    all_goals first | exact fin _ _ _ _ _ _ (by omega) hs | exact fin _ _ _ _ _ _ (by omega) sd_ok | exact .inl hs | exact .inl sd_ok | exact .inr (by decide) | omega | decide
  · simp only [wS_seq, wS_store, wS_if, wS_asg, wS_ret, wS_fNext, wR_test, wR_asB, wR_andT, wR_call, wR_consA, wR_nilA, wR_lenL, wR_abs, wR_intC, wR_mod, wR_mul, wR_div, wR_pow, wR_lt, wR_ge, wR_gt, wR_eqI, wR_2, wR_var, wR_c, sE, List.length_cons, List.length_nil, List.map_cons, List.map_nil, List.cons_append, List.nil_append, List.getElem?_cons_zero, List.getElem?_cons_succ, wR_ixR hk, wR_ixL, wR_add, setCell_lst hk, wR_ixR (gs _), setCell_lst (gs _), List.set_set, i50, i51, i52, i53, i54, onO_some, List.set_cons_zero, List.set_cons_succ, Nat.reduceAdd, j51, j52, j53, j54, Option.map_some, wO_set, decide_eq_true_eq, Bool.false_eq_true, if_false, if_true, List.length_map]
    repeat' first | split | apply And.intro
    all_goals first | exact fin _ _ _ _ _ _ (by omega) hs | exact fin _ _ _ _ _ _ (by omega) sd_ok | exact .inl hs | exact .inl sd_ok | exact .inr (by decide) | omega | decide

theorem of_ok : OfS F__law_of := of_of pull_ok fun k ds g Q X => by
  unfold F__law_of b__law_of
  simp only [wR_body, wR_ok, wR_stuck, wR_exc, wR_bind, wR_var, wR_c, wR_1, wR_2, wR_nilA, wR_consA, wR_ite, wR_tup, wR_lst, wR_cellL, wR_asB, wR_test, wR_andT, wR_orT, wR_notT, onB_bl, wR_andV, wR_orV, wR_notV, wR_if, wR_call, wR_chain, wR_slice, wR_noPart, wR_part, wR_okO, wS_next, wS_fNext, wS_seq, wS_ret, wS_retN, wS_expr, wS_asg, wO_set, wO_some, wO_nils, wO_conss, wO_tup, wS_if, wS_for, wS_store, wS_par, on1_e, on2_e, onI_e, wR_range1, wR_range2, onSeq_some, wR_seqI, wR_zip, wR_enum, wR_lc, wR_yes, wR_sub, wR_add, wR_mul, wR_mod, wR_div, wR_pow, wR_neg, wR_lt, wR_le, wR_gt, wR_ge, wR_abs, wR_intC, wR_eqI, wR_eqS, wR_eqB, wR_isN, wR_lenL, wR_lenT, wR_listL, wR_listT, wR_tupL, wR_tupT, onO_some, wR_ixL, wR_ixT, sl_tup, sl_lst, sl_scr, isi_non, sub_non_int, sub_non_bool, sub_non_str, sub_non_tuple, sub_non_list, sub_non_dict, isi_bl, sub_bl_int, sub_bl_bool, sub_bl_str, sub_bl_tuple, sub_bl_list, sub_bl_dict, isi_int, sub_int_int, sub_int_bool, sub_int_str, sub_int_tuple, sub_int_list, sub_int_dict, isi_str, sub_str_int, sub_str_bool, sub_str_str, sub_str_tuple, sub_str_list, sub_str_dict, isi_tup, sub_tup_int, sub_tup_bool, sub_tup_str, sub_tup_tuple, sub_tup_list, sub_tup_dict, isi_lst, sub_lst_int, sub_lst_bool, sub_lst_str, sub_lst_tuple, sub_lst_list, sub_lst_dict, isi_dct, sub_dct_int, sub_dct_bool, sub_dct_str, sub_dct_tuple, sub_dct_list, sub_dct_dict, List.any_cons, List.any_nil, Bool.or_false, Bool.or_true, Bool.false_or, Bool.true_or, wR_addT, wR_addL, wO_star1, wR_inK, wR_inKI, wR_ixK, wR_ixKI, lookK_hit, lookK_nil, Option.isSome_some, Option.isSome_none, seqF_tup, seqF_lst, seqF_scr, sz0, sz1, sz2, sz3, sz4, sz5, sz6, sz7, sz8, sz9, sz10, sz11, sz12, sz13, sz14, sz15, sz16, startE, isN, List.length_cons, List.length_nil, List.map_cons, List.map_nil, List.cons_append, List.nil_append, List.getElem?_cons_zero, List.getElem?_cons_succ, List.set_cons_zero, List.set_cons_succ, List.reduceReplicate, Nat.reduceAdd, Nat.reduceSub, Nat.zero_add, Option.map_some, decide_eq_true_eq, Bool.false_eq_true, Bool.not_true, Bool.not_false, if_false, if_true, true_and, and_true]
/-- what a key is -/
def keyP : D → Bool
  | .int i => decide ((if i < 0 then -i else i) < 10 ^ 30)
  | _ => false
theorem isn_eq {d : D} {t : String} (h : tyF d = some t) (g : G) : F_is_number [d] g = .ok (.bl (match d with | .int _ => true | _ => false)) g := by
  refine wR_eq ?_
  unfold F_is_number b_is_number
  simp only [wR_body, wR_ok, wR_stuck, wR_exc, wR_bind, wR_var, wR_c, wR_1, wR_2, wR_nilA, wR_consA, wR_ite, wR_tup, wR_lst, wR_cellL, wR_asB, wR_test, wR_andT, wR_orT, wR_notT, onB_bl, wR_andV, wR_orV, wR_notV, wR_if, wR_call, wR_chain, wR_slice, wR_noPart, wR_part, wR_okO, wS_next, wS_fNext, wS_seq, wS_ret, wS_retN, wS_expr, wS_asg, wO_set, wO_some, wO_nils, wO_conss, wO_tup, wS_if, wS_for, wS_store, wS_par, on1_e, on2_e, onI_e, wR_range1, wR_range2, onSeq_some, wR_seqI, wR_zip, wR_enum, wR_lc, wR_yes, wR_sub, wR_add, wR_mul, wR_mod, wR_div, wR_pow, wR_neg, wR_lt, wR_le, wR_gt, wR_ge, wR_abs, wR_intC, wR_eqI, wR_eqS, wR_eqB, wR_isN, wR_lenL, wR_lenT, wR_listL, wR_listT, wR_tupL, wR_tupT, onO_some, wR_ixL, wR_ixT, sl_tup, sl_lst, sl_scr, isi_non, sub_non_int, sub_non_bool, sub_non_str, sub_non_tuple, sub_non_list, sub_non_dict, isi_bl, sub_bl_int, sub_bl_bool, sub_bl_str, sub_bl_tuple, sub_bl_list, sub_bl_dict, isi_int, sub_int_int, sub_int_bool, sub_int_str, sub_int_tuple, sub_int_list, sub_int_dict, isi_str, sub_str_int, sub_str_bool, sub_str_str, sub_str_tuple, sub_str_list, sub_str_dict, isi_tup, sub_tup_int, sub_tup_bool, sub_tup_str, sub_tup_tuple, sub_tup_list, sub_tup_dict, isi_lst, sub_lst_int, sub_lst_bool, sub_lst_str, sub_lst_tuple, sub_lst_list, sub_lst_dict, isi_dct, sub_dct_int, sub_dct_bool, sub_dct_str, sub_dct_tuple, sub_dct_list, sub_dct_dict, List.any_cons, List.any_nil, Bool.or_false, Bool.or_true, Bool.false_or, Bool.true_or, wR_addT, wR_addL, wO_star1, wR_inK, wR_inKI, wR_ixK, wR_ixKI, lookK_hit, lookK_nil, Option.isSome_some, Option.isSome_none, seqF_tup, seqF_lst, seqF_scr, sz0, sz1, sz2, sz3, sz4, sz5, sz6, sz7, sz8, sz9, sz10, sz11, sz12, sz13, sz14, sz15, sz16, startE, isN, List.length_cons, List.length_nil, List.map_cons, List.map_nil, List.cons_append, List.nil_append, List.getElem?_cons_zero, List.getElem?_cons_succ, List.set_cons_zero, List.set_cons_succ, List.reduceReplicate, Nat.reduceAdd, Nat.reduceSub, Nat.zero_add, Option.map_some, decide_eq_true_eq, Bool.false_eq_true, Bool.not_true, Bool.not_false, if_false, if_true, true_and, and_true, wR_isi h, onB_bl]
  cases d <;> cases h <;> simp [subT, List.any]
theorem key_eq {d : D} {t : String} (h : tyF d = some t) (g : G) : F_is_key [d] g = .ok (.bl (keyP d)) g := by
  refine wR_eq ?_
  unfold F_is_key b_is_key
  simp only [wR_body, wR_ok, wR_stuck, wR_exc, wR_bind, wR_var, wR_c, wR_1, wR_2, wR_nilA, wR_consA, wR_ite, wR_tup, wR_lst, wR_cellL, wR_asB, wR_test, wR_andT, wR_orT, wR_notT, onB_bl, wR_andV, wR_orV, wR_notV, wR_if, wR_call, wR_chain, wR_slice, wR_noPart, wR_part, wR_okO, wS_next, wS_fNext, wS_seq, wS_ret, wS_retN, wS_expr, wS_asg, wO_set, wO_some, wO_nils, wO_conss, wO_tup, wS_if, wS_for, wS_store, wS_par, on1_e, on2_e, onI_e, wR_range1, wR_range2, onSeq_some, wR_seqI, wR_zip, wR_enum, wR_lc, wR_yes, wR_sub, wR_add, wR_mul, wR_mod, wR_div, wR_pow, wR_neg, wR_lt, wR_le, wR_gt, wR_ge, wR_abs, wR_intC, wR_eqI, wR_eqS, wR_eqB, wR_isN, wR_lenL, wR_lenT, wR_listL, wR_listT, wR_tupL, wR_tupT, onO_some, wR_ixL, wR_ixT, sl_tup, sl_lst, sl_scr, isi_non, sub_non_int, sub_non_bool, sub_non_str, sub_non_tuple, sub_non_list, sub_non_dict, isi_bl, sub_bl_int, sub_bl_bool, sub_bl_str, sub_bl_tuple, sub_bl_list, sub_bl_dict, isi_int, sub_int_int, sub_int_bool, sub_int_str, sub_int_tuple, sub_int_list, sub_int_dict, isi_str, sub_str_int, sub_str_bool, sub_str_str, sub_str_tuple, sub_str_list, sub_str_dict, isi_tup, sub_tup_int, sub_tup_bool, sub_tup_str, sub_tup_tuple, sub_tup_list, sub_tup_dict, isi_lst, sub_lst_int, sub_lst_bool, sub_lst_str, sub_lst_tuple, sub_lst_list, sub_lst_dict, isi_dct, sub_dct_int, sub_dct_bool, sub_dct_str, sub_dct_tuple, sub_dct_list, sub_dct_dict, List.any_cons, List.any_nil, Bool.or_false, Bool.or_true, Bool.false_or, Bool.true_or, wR_addT, wR_addL, wO_star1, wR_inK, wR_inKI, wR_ixK, wR_ixKI, lookK_hit, lookK_nil, Option.isSome_some, Option.isSome_none, seqF_tup, seqF_lst, seqF_scr, sz0, sz1, sz2, sz3, sz4, sz5, sz6, sz7, sz8, sz9, sz10, sz11, sz12, sz13, sz14, sz15, sz16, startE, isN, List.length_cons, List.length_nil, List.map_cons, List.map_nil, List.cons_append, List.nil_append, List.getElem?_cons_zero, List.getElem?_cons_succ, List.set_cons_zero, List.set_cons_succ, List.reduceReplicate, Nat.reduceAdd, Nat.reduceSub, Nat.zero_add, Option.map_some, decide_eq_true_eq, Bool.false_eq_true, Bool.not_true, Bool.not_false, if_false, if_true, true_and, and_true, eq_wR (isn_eq h _)]
  cases d <;> cases h <;> simp [onB, keyP, wR_abs, wR_lt]
theorem lkey_eq {d : D} {t : String} (h : tyF d = some t) (g : G) : F__law_is_key [d] g = .ok (.bl (keyP d)) g := by
  refine wR_eq ?_
  unfold F__law_is_key b__law_is_key
  simp only [wR_body, wR_ok, wR_stuck, wR_exc, wR_bind, wR_var, wR_c, wR_1, wR_2, wR_nilA, wR_consA, wR_ite, wR_tup, wR_lst, wR_cellL, wR_asB, wR_test, wR_andT, wR_orT, wR_notT, onB_bl, wR_andV, wR_orV, wR_notV, wR_if, wR_call, wR_chain, wR_slice, wR_noPart, wR_part, wR_okO, wS_next, wS_fNext, wS_seq, wS_ret, wS_retN, wS_expr, wS_asg, wO_set, wO_some, wO_nils, wO_conss, wO_tup, wS_if, wS_for, wS_store, wS_par, on1_e, on2_e, onI_e, wR_range1, wR_range2, onSeq_some, wR_seqI, wR_zip, wR_enum, wR_lc, wR_yes, wR_sub, wR_add, wR_mul, wR_mod, wR_div, wR_pow, wR_neg, wR_lt, wR_le, wR_gt, wR_ge, wR_abs, wR_intC, wR_eqI, wR_eqS, wR_eqB, wR_isN, wR_lenL, wR_lenT, wR_listL, wR_listT, wR_tupL, wR_tupT, onO_some, wR_ixL, wR_ixT, sl_tup, sl_lst, sl_scr, isi_non, sub_non_int, sub_non_bool, sub_non_str, sub_non_tuple, sub_non_list, sub_non_dict, isi_bl, sub_bl_int, sub_bl_bool, sub_bl_str, sub_bl_tuple, sub_bl_list, sub_bl_dict, isi_int, sub_int_int, sub_int_bool, sub_int_str, sub_int_tuple, sub_int_list, sub_int_dict, isi_str, sub_str_int, sub_str_bool, sub_str_str, sub_str_tuple, sub_str_list, sub_str_dict, isi_tup, sub_tup_int, sub_tup_bool, sub_tup_str, sub_tup_tuple, sub_tup_list, sub_tup_dict, isi_lst, sub_lst_int, sub_lst_bool, sub_lst_str, sub_lst_tuple, sub_lst_list, sub_lst_dict, isi_dct, sub_dct_int, sub_dct_bool, sub_dct_str, sub_dct_tuple, sub_dct_list, sub_dct_dict, List.any_cons, List.any_nil, Bool.or_false, Bool.or_true, Bool.false_or, Bool.true_or, wR_addT, wR_addL, wO_star1, wR_inK, wR_inKI, wR_ixK, wR_ixKI, lookK_hit, lookK_nil, Option.isSome_some, Option.isSome_none, seqF_tup, seqF_lst, seqF_scr, sz0, sz1, sz2, sz3, sz4, sz5, sz6, sz7, sz8, sz9, sz10, sz11, sz12, sz13, sz14, sz15, sz16, startE, isN, List.length_cons, List.length_nil, List.map_cons, List.map_nil, List.cons_append, List.nil_append, List.getElem?_cons_zero, List.getElem?_cons_succ, List.set_cons_zero, List.set_cons_succ, List.reduceReplicate, Nat.reduceAdd, Nat.reduceSub, Nat.zero_add, Option.map_some, decide_eq_true_eq, Bool.false_eq_true, Bool.not_true, Bool.not_false, if_false, if_true, true_and, and_true, wR_isi h]
  cases d <;> cases h <;> simp [onB, keyP, wR_abs, wR_lt, wR_pow, subT]
def walkOk : List D → Bool
  | [.int a, .int b] => decide (a ≤ b)
  | _ => false
def askP : D → Bool
  | .tup (.str w :: ns) => ns.all keyP && (((decide (w = "get") || decide (w = "strike")) && decide (ns.length = 1)) || (decide (w = "put") && decide (ns.length = 2)) || (decide (w = "walk") && walkOk ns))
  | _ => false
theorem isask_eq {d : D} {t : String} (h : tyF d = some t) (hs : ∀ xs, d = .tup xs → xs.length ≤ sizeLine ∧ ∀ x ∈ xs, ∃ t, tyF x = some t) (g : G) : F_is_ask [d] g = .ok (.bl (askP d)) g := by
  refine wR_eq ?_
  unfold F_is_ask b_is_ask
  by_cases hd : ∃ xs, d = .tup xs
  case neg =>
    cases d <;> cases h <;> first | exact absurd ⟨_, rfl⟩ hd | skip
    all_goals simp [wR_ok, wR_stuck, wR_exc, wR_bind, wR_var, wR_c, wR_1, wR_2, wR_nilA, wR_consA, wR_ite, wR_tup, wR_lst, wR_cellL, wR_asB, wR_test, wR_andT, wR_orT, wR_notT, onB_bl, wR_andV, wR_orV, wR_notV, wR_if, wR_call, wR_chain, wR_slice, wR_noPart, wR_part, wR_okO, wS_next, wS_fNext, wS_seq, wS_ret, wS_retN, wS_expr, wS_asg, wO_set, wO_some, wO_nils, wO_conss, wO_tup, wS_if, wS_for, wS_store, wS_par, on1_e, on2_e, onI_e, wR_range1, wR_range2, onSeq_some, wR_seqI, wR_zip, wR_enum, wR_lc, wR_yes, wR_sub, wR_add, wR_mul, wR_mod, wR_div, wR_pow, wR_neg, wR_lt, wR_le, wR_gt, wR_ge, wR_abs, wR_intC, wR_eqI, wR_eqS, wR_eqB, wR_isN, wR_lenL, wR_lenT, wR_listL, wR_listT, wR_tupL, wR_tupT, onO_some, wR_ixL, wR_ixT, sl_tup, sl_lst, sl_scr, isi_non, sub_non_int, sub_non_bool, sub_non_str, sub_non_tuple, sub_non_list, sub_non_dict, isi_bl, sub_bl_int, sub_bl_bool, sub_bl_str, sub_bl_tuple, sub_bl_list, sub_bl_dict, isi_int, sub_int_int, sub_int_bool, sub_int_str, sub_int_tuple, sub_int_list, sub_int_dict, isi_str, sub_str_int, sub_str_bool, sub_str_str, sub_str_tuple, sub_str_list, sub_str_dict, isi_tup, sub_tup_int, sub_tup_bool, sub_tup_str, sub_tup_tuple, sub_tup_list, sub_tup_dict, isi_lst, sub_lst_int, sub_lst_bool, sub_lst_str, sub_lst_tuple, sub_lst_list, sub_lst_dict, isi_dct, sub_dct_int, sub_dct_bool, sub_dct_str, sub_dct_tuple, sub_dct_list, sub_dct_dict, List.any_cons, List.any_nil, Bool.or_false, Bool.or_true, Bool.false_or, Bool.true_or, wR_addT, wR_addL, wO_star1, wR_inK, wR_inKI, wR_ixK, wR_ixKI, lookK_hit, lookK_nil, Option.isSome_some, Option.isSome_none, seqF_tup, seqF_lst, seqF_scr, sz0, sz1, sz2, sz3, sz4, sz5, sz6, sz7, sz8, sz9, sz10, sz11, sz12, sz13, sz14, sz15, sz16, startE, isN, List.length_cons, List.length_nil, List.map_cons, List.map_nil, List.cons_append, List.nil_append, List.getElem?_cons_zero, List.getElem?_cons_succ, List.set_cons_zero, List.set_cons_succ, List.reduceReplicate, Nat.reduceAdd, Nat.reduceSub, Nat.zero_add, Option.map_some, decide_eq_true_eq, Bool.false_eq_true, Bool.not_true, Bool.not_false, if_false, if_true, true_and, and_true, wR_body, askP]
  obtain ⟨xs, rfl⟩ := hd
  simp only [wR_body, wR_ok, wR_stuck, wR_exc, wR_bind, wR_var, wR_c, wR_1, wR_2, wR_nilA, wR_consA, wR_ite, wR_tup, wR_lst, wR_cellL, wR_asB, wR_test, wR_andT, wR_orT, wR_notT, onB_bl, wR_andV, wR_orV, wR_notV, wR_if, wR_call, wR_chain, wR_slice, wR_noPart, wR_part, wR_okO, wS_next, wS_fNext, wS_seq, wS_ret, wS_retN, wS_expr, wS_asg, wO_set, wO_some, wO_nils, wO_conss, wO_tup, wS_if, wS_for, wS_store, wS_par, on1_e, on2_e, onI_e, wR_range1, wR_range2, onSeq_some, wR_seqI, wR_zip, wR_enum, wR_lc, wR_yes, wR_sub, wR_add, wR_mul, wR_mod, wR_div, wR_pow, wR_neg, wR_lt, wR_le, wR_gt, wR_ge, wR_abs, wR_intC, wR_eqI, wR_eqS, wR_eqB, wR_isN, wR_lenL, wR_lenT, wR_listL, wR_listT, wR_tupL, wR_tupT, onO_some, wR_ixL, wR_ixT, sl_tup, sl_lst, sl_scr, isi_non, sub_non_int, sub_non_bool, sub_non_str, sub_non_tuple, sub_non_list, sub_non_dict, isi_bl, sub_bl_int, sub_bl_bool, sub_bl_str, sub_bl_tuple, sub_bl_list, sub_bl_dict, isi_int, sub_int_int, sub_int_bool, sub_int_str, sub_int_tuple, sub_int_list, sub_int_dict, isi_str, sub_str_int, sub_str_bool, sub_str_str, sub_str_tuple, sub_str_list, sub_str_dict, isi_tup, sub_tup_int, sub_tup_bool, sub_tup_str, sub_tup_tuple, sub_tup_list, sub_tup_dict, isi_lst, sub_lst_int, sub_lst_bool, sub_lst_str, sub_lst_tuple, sub_lst_list, sub_lst_dict, isi_dct, sub_dct_int, sub_dct_bool, sub_dct_str, sub_dct_tuple, sub_dct_list, sub_dct_dict, List.any_cons, List.any_nil, Bool.or_false, Bool.or_true, Bool.false_or, Bool.true_or, wR_addT, wR_addL, wO_star1, wR_inK, wR_inKI, wR_ixK, wR_ixKI, lookK_hit, lookK_nil, Option.isSome_some, Option.isSome_none, seqF_tup, seqF_lst, seqF_scr, sz0, sz1, sz2, sz3, sz4, sz5, sz6, sz7, sz8, sz9, sz10, sz11, sz12, sz13, sz14, sz15, sz16, startE, isN, List.length_cons, List.length_nil, List.map_cons, List.map_nil, List.cons_append, List.nil_append, List.getElem?_cons_zero, List.getElem?_cons_succ, List.set_cons_zero, List.set_cons_succ, List.reduceReplicate, Nat.reduceAdd, Nat.reduceSub, Nat.zero_add, Option.map_some, decide_eq_true_eq, Bool.false_eq_true, Bool.not_true, Bool.not_false, if_false, if_true, true_and, and_true]
  obtain ⟨hl, hx⟩ := hs xs rfl
  cases xs with
  | nil => simp [wR_ok, wR_stuck, wR_exc, wR_bind, wR_var, wR_c, wR_1, wR_2, wR_nilA, wR_consA, wR_ite, wR_tup, wR_lst, wR_cellL, wR_asB, wR_test, wR_andT, wR_orT, wR_notT, onB_bl, wR_andV, wR_orV, wR_notV, wR_if, wR_call, wR_chain, wR_slice, wR_noPart, wR_part, wR_okO, wS_next, wS_fNext, wS_seq, wS_ret, wS_retN, wS_expr, wS_asg, wO_set, wO_some, wO_nils, wO_conss, wO_tup, wS_if, wS_for, wS_store, wS_par, on1_e, on2_e, onI_e, wR_range1, wR_range2, onSeq_some, wR_seqI, wR_zip, wR_enum, wR_lc, wR_yes, wR_sub, wR_add, wR_mul, wR_mod, wR_div, wR_pow, wR_neg, wR_lt, wR_le, wR_gt, wR_ge, wR_abs, wR_intC, wR_eqI, wR_eqS, wR_eqB, wR_isN, wR_lenL, wR_lenT, wR_listL, wR_listT, wR_tupL, wR_tupT, onO_some, wR_ixL, wR_ixT, sl_tup, sl_lst, sl_scr, isi_non, sub_non_int, sub_non_bool, sub_non_str, sub_non_tuple, sub_non_list, sub_non_dict, isi_bl, sub_bl_int, sub_bl_bool, sub_bl_str, sub_bl_tuple, sub_bl_list, sub_bl_dict, isi_int, sub_int_int, sub_int_bool, sub_int_str, sub_int_tuple, sub_int_list, sub_int_dict, isi_str, sub_str_int, sub_str_bool, sub_str_str, sub_str_tuple, sub_str_list, sub_str_dict, isi_tup, sub_tup_int, sub_tup_bool, sub_tup_str, sub_tup_tuple, sub_tup_list, sub_tup_dict, isi_lst, sub_lst_int, sub_lst_bool, sub_lst_str, sub_lst_tuple, sub_lst_list, sub_lst_dict, isi_dct, sub_dct_int, sub_dct_bool, sub_dct_str, sub_dct_tuple, sub_dct_list, sub_dct_dict, List.any_cons, List.any_nil, Bool.or_false, Bool.or_true, Bool.false_or, Bool.true_or, wR_addT, wR_addL, wO_star1, wR_inK, wR_inKI, wR_ixK, wR_ixKI, lookK_hit, lookK_nil, Option.isSome_some, Option.isSome_none, seqF_tup, seqF_lst, seqF_scr, sz0, sz1, sz2, sz3, sz4, sz5, sz6, sz7, sz8, sz9, sz10, sz11, sz12, sz13, sz14, sz15, sz16, startE, isN, List.length_cons, List.length_nil, List.map_cons, List.map_nil, List.cons_append, List.nil_append, List.getElem?_cons_zero, List.getElem?_cons_succ, List.set_cons_zero, List.set_cons_succ, List.reduceReplicate, Nat.reduceAdd, Nat.reduceSub, Nat.zero_add, Option.map_some, decide_eq_true_eq, Bool.false_eq_true, Bool.not_true, Bool.not_false, if_false, if_true, true_and, and_true, askP]
  | cons x ns =>
    obtain ⟨t, ht⟩ := hx x (List.mem_cons_self ..)
    have hns : ∀ x ∈ ns, ∃ t, tyF x = some t := fun y hy => hx y (List.mem_cons_of_mem _ hy)
    have hcomp : ∀ env : Env, 3 < env.length → compF (gSet 3) fYes (fCall F_is_key (fConsA (fVar 3) fNilA)) env ns g = .ok (ns.map fun d => D.bl (keyP d)) g := fun env he =>
      compF_pure (fun d => D.bl (keyP d)) ns fun d hd => by
        obtain ⟨t, ht⟩ := hns d hd
        refine ⟨env.set 3 (.val d), ?_, rfl, ?_⟩
        · unfold gSet
          rw [List.getElem?_eq_getElem he]
        · refine wR_eq ?_
          simp only [wR_ok, wR_stuck, wR_exc, wR_bind, wR_var, wR_c, wR_1, wR_2, wR_nilA, wR_consA, wR_ite, wR_tup, wR_lst, wR_cellL, wR_asB, wR_test, wR_andT, wR_orT, wR_notT, onB_bl, wR_andV, wR_orV, wR_notV, wR_if, wR_call, wR_chain, wR_slice, wR_noPart, wR_part, wR_okO, wS_next, wS_fNext, wS_seq, wS_ret, wS_retN, wS_expr, wS_asg, wO_set, wO_some, wO_nils, wO_conss, wO_tup, wS_if, wS_for, wS_store, wS_par, on1_e, on2_e, onI_e, wR_range1, wR_range2, onSeq_some, wR_seqI, wR_zip, wR_enum, wR_lc, wR_yes, wR_sub, wR_add, wR_mul, wR_mod, wR_div, wR_pow, wR_neg, wR_lt, wR_le, wR_gt, wR_ge, wR_abs, wR_intC, wR_eqI, wR_eqS, wR_eqB, wR_isN, wR_lenL, wR_lenT, wR_listL, wR_listT, wR_tupL, wR_tupT, onO_some, wR_ixL, wR_ixT, sl_tup, sl_lst, sl_scr, isi_non, sub_non_int, sub_non_bool, sub_non_str, sub_non_tuple, sub_non_list, sub_non_dict, isi_bl, sub_bl_int, sub_bl_bool, sub_bl_str, sub_bl_tuple, sub_bl_list, sub_bl_dict, isi_int, sub_int_int, sub_int_bool, sub_int_str, sub_int_tuple, sub_int_list, sub_int_dict, isi_str, sub_str_int, sub_str_bool, sub_str_str, sub_str_tuple, sub_str_list, sub_str_dict, isi_tup, sub_tup_int, sub_tup_bool, sub_tup_str, sub_tup_tuple, sub_tup_list, sub_tup_dict, isi_lst, sub_lst_int, sub_lst_bool, sub_lst_str, sub_lst_tuple, sub_lst_list, sub_lst_dict, isi_dct, sub_dct_int, sub_dct_bool, sub_dct_str, sub_dct_tuple, sub_dct_list, sub_dct_dict, List.any_cons, List.any_nil, Bool.or_false, Bool.or_true, Bool.false_or, Bool.true_or, wR_addT, wR_addL, wO_star1, wR_inK, wR_inKI, wR_ixK, wR_ixKI, lookK_hit, lookK_nil, Option.isSome_some, Option.isSome_none, seqF_tup, seqF_lst, seqF_scr, sz0, sz1, sz2, sz3, sz4, sz5, sz6, sz7, sz8, sz9, sz10, sz11, sz12, sz13, sz14, sz15, sz16, startE, isN, List.length_cons, List.length_nil, List.map_cons, List.map_nil, List.cons_append, List.nil_append, List.getElem?_cons_zero, List.getElem?_cons_succ, List.set_cons_zero, List.set_cons_succ, List.reduceReplicate, Nat.reduceAdd, Nat.reduceSub, Nat.zero_add, Option.map_some, decide_eq_true_eq, Bool.false_eq_true, Bool.not_true, Bool.not_false, if_false, if_true, true_and, and_true, List.getElem?_set_self he, eq_wR (key_eq ht _)]
    have hl2 : ns.length ≤ sizeLine := by
      rw [List.length_cons] at hl; omega
    cases x <;> cases ht <;> simp only [wR_ok, wR_stuck, wR_exc, wR_bind, wR_var, wR_c, wR_1, wR_2, wR_nilA, wR_consA, wR_ite, wR_tup, wR_lst, wR_cellL, wR_asB, wR_test, wR_andT, wR_orT, wR_notT, onB_bl, wR_andV, wR_orV, wR_notV, wR_if, wR_call, wR_chain, wR_slice, wR_noPart, wR_part, wR_okO, wS_next, wS_fNext, wS_seq, wS_ret, wS_retN, wS_expr, wS_asg, wO_set, wO_some, wO_nils, wO_conss, wO_tup, wS_if, wS_for, wS_store, wS_par, on1_e, on2_e, onI_e, wR_range1, wR_range2, onSeq_some, wR_seqI, wR_zip, wR_enum, wR_lc, wR_yes, wR_sub, wR_add, wR_mul, wR_mod, wR_div, wR_pow, wR_neg, wR_lt, wR_le, wR_gt, wR_ge, wR_abs, wR_intC, wR_eqI, wR_eqS, wR_eqB, wR_isN, wR_lenL, wR_lenT, wR_listL, wR_listT, wR_tupL, wR_tupT, onO_some, wR_ixL, wR_ixT, sl_tup, sl_lst, sl_scr, isi_non, sub_non_int, sub_non_bool, sub_non_str, sub_non_tuple, sub_non_list, sub_non_dict, isi_bl, sub_bl_int, sub_bl_bool, sub_bl_str, sub_bl_tuple, sub_bl_list, sub_bl_dict, isi_int, sub_int_int, sub_int_bool, sub_int_str, sub_int_tuple, sub_int_list, sub_int_dict, isi_str, sub_str_int, sub_str_bool, sub_str_str, sub_str_tuple, sub_str_list, sub_str_dict, isi_tup, sub_tup_int, sub_tup_bool, sub_tup_str, sub_tup_tuple, sub_tup_list, sub_tup_dict, isi_lst, sub_lst_int, sub_lst_bool, sub_lst_str, sub_lst_tuple, sub_lst_list, sub_lst_dict, isi_dct, sub_dct_int, sub_dct_bool, sub_dct_str, sub_dct_tuple, sub_dct_list, sub_dct_dict, List.any_cons, List.any_nil, Bool.or_false, Bool.or_true, Bool.false_or, Bool.true_or, wR_addT, wR_addL, wO_star1, wR_inK, wR_inKI, wR_ixK, wR_ixKI, lookK_hit, lookK_nil, Option.isSome_some, Option.isSome_none, seqF_tup, seqF_lst, seqF_scr, sz0, sz1, sz2, sz3, sz4, sz5, sz6, sz7, sz8, sz9, sz10, sz11, sz12, sz13, sz14, sz15, sz16, startE, isN, List.length_cons, List.length_nil, List.map_cons, List.map_nil, List.cons_append, List.nil_append, List.getElem?_cons_zero, List.getElem?_cons_succ, List.set_cons_zero, List.set_cons_succ, List.reduceReplicate, Nat.reduceAdd, Nat.reduceSub, Nat.zero_add, Option.map_some, decide_eq_true_eq, Bool.false_eq_true, Bool.not_true, Bool.not_false, if_false, if_true, true_and, and_true, atI_zero] <;> first | (simp [askP]; done) | skip
    rename_i w
    rw [if_neg (by omega)]
    refine ⟨hl2, ?_⟩
    rw [eq_wR (hcomp _ (by simp [wipeE])), wR_all]
    by_cases hk : ns.all keyP = true
    case neg =>
      have hk' : ns.all keyP = false := by simpa using hk
      simp [wR_ok, wR_stuck, wR_exc, wR_bind, wR_var, wR_c, wR_1, wR_2, wR_nilA, wR_consA, wR_ite, wR_tup, wR_lst, wR_cellL, wR_asB, wR_test, wR_andT, wR_orT, wR_notT, onB_bl, wR_andV, wR_orV, wR_notV, wR_if, wR_call, wR_chain, wR_slice, wR_noPart, wR_part, wR_okO, wS_next, wS_fNext, wS_seq, wS_ret, wS_retN, wS_expr, wS_asg, wO_set, wO_some, wO_nils, wO_conss, wO_tup, wS_if, wS_for, wS_store, wS_par, on1_e, on2_e, onI_e, wR_range1, wR_range2, onSeq_some, wR_seqI, wR_zip, wR_enum, wR_lc, wR_yes, wR_sub, wR_add, wR_mul, wR_mod, wR_div, wR_pow, wR_neg, wR_lt, wR_le, wR_gt, wR_ge, wR_abs, wR_intC, wR_eqI, wR_eqS, wR_eqB, wR_isN, wR_lenL, wR_lenT, wR_listL, wR_listT, wR_tupL, wR_tupT, onO_some, wR_ixL, wR_ixT, sl_tup, sl_lst, sl_scr, isi_non, sub_non_int, sub_non_bool, sub_non_str, sub_non_tuple, sub_non_list, sub_non_dict, isi_bl, sub_bl_int, sub_bl_bool, sub_bl_str, sub_bl_tuple, sub_bl_list, sub_bl_dict, isi_int, sub_int_int, sub_int_bool, sub_int_str, sub_int_tuple, sub_int_list, sub_int_dict, isi_str, sub_str_int, sub_str_bool, sub_str_str, sub_str_tuple, sub_str_list, sub_str_dict, isi_tup, sub_tup_int, sub_tup_bool, sub_tup_str, sub_tup_tuple, sub_tup_list, sub_tup_dict, isi_lst, sub_lst_int, sub_lst_bool, sub_lst_str, sub_lst_tuple, sub_lst_list, sub_lst_dict, isi_dct, sub_dct_int, sub_dct_bool, sub_dct_str, sub_dct_tuple, sub_dct_list, sub_dct_dict, List.any_cons, List.any_nil, Bool.or_false, Bool.or_true, Bool.false_or, Bool.true_or, wR_addT, wR_addL, wO_star1, wR_inK, wR_inKI, wR_ixK, wR_ixKI, lookK_hit, lookK_nil, Option.isSome_some, Option.isSome_none, seqF_tup, seqF_lst, seqF_scr, sz0, sz1, sz2, sz3, sz4, sz5, sz6, sz7, sz8, sz9, sz10, sz11, sz12, sz13, sz14, sz15, sz16, startE, isN, List.length_cons, List.length_nil, List.map_cons, List.map_nil, List.cons_append, List.nil_append, List.getElem?_cons_zero, List.getElem?_cons_succ, List.set_cons_zero, List.set_cons_succ, List.reduceReplicate, Nat.reduceAdd, Nat.reduceSub, Nat.zero_add, Option.map_some, decide_eq_true_eq, Bool.false_eq_true, Bool.not_true, Bool.not_false, if_false, if_true, true_and, and_true, askP, hk']
    simp only [wR_ok, wR_stuck, wR_exc, wR_bind, wR_var, wR_c, wR_1, wR_2, wR_nilA, wR_consA, wR_ite, wR_tup, wR_lst, wR_cellL, wR_asB, wR_test, wR_andT, wR_orT, wR_notT, onB_bl, wR_andV, wR_orV, wR_notV, wR_if, wR_call, wR_chain, wR_slice, wR_noPart, wR_part, wR_okO, wS_next, wS_fNext, wS_seq, wS_ret, wS_retN, wS_expr, wS_asg, wO_set, wO_some, wO_nils, wO_conss, wO_tup, wS_if, wS_for, wS_store, wS_par, on1_e, on2_e, onI_e, wR_range1, wR_range2, onSeq_some, wR_seqI, wR_zip, wR_enum, wR_lc, wR_yes, wR_sub, wR_add, wR_mul, wR_mod, wR_div, wR_pow, wR_neg, wR_lt, wR_le, wR_gt, wR_ge, wR_abs, wR_intC, wR_eqI, wR_eqS, wR_eqB, wR_isN, wR_lenL, wR_lenT, wR_listL, wR_listT, wR_tupL, wR_tupT, onO_some, wR_ixL, wR_ixT, sl_tup, sl_lst, sl_scr, isi_non, sub_non_int, sub_non_bool, sub_non_str, sub_non_tuple, sub_non_list, sub_non_dict, isi_bl, sub_bl_int, sub_bl_bool, sub_bl_str, sub_bl_tuple, sub_bl_list, sub_bl_dict, isi_int, sub_int_int, sub_int_bool, sub_int_str, sub_int_tuple, sub_int_list, sub_int_dict, isi_str, sub_str_int, sub_str_bool, sub_str_str, sub_str_tuple, sub_str_list, sub_str_dict, isi_tup, sub_tup_int, sub_tup_bool, sub_tup_str, sub_tup_tuple, sub_tup_list, sub_tup_dict, isi_lst, sub_lst_int, sub_lst_bool, sub_lst_str, sub_lst_tuple, sub_lst_list, sub_lst_dict, isi_dct, sub_dct_int, sub_dct_bool, sub_dct_str, sub_dct_tuple, sub_dct_list, sub_dct_dict, List.any_cons, List.any_nil, Bool.or_false, Bool.or_true, Bool.false_or, Bool.true_or, wR_addT, wR_addL, wO_star1, wR_inK, wR_inKI, wR_ixK, wR_ixKI, lookK_hit, lookK_nil, Option.isSome_some, Option.isSome_none, seqF_tup, seqF_lst, seqF_scr, sz0, sz1, sz2, sz3, sz4, sz5, sz6, sz7, sz8, sz9, sz10, sz11, sz12, sz13, sz14, sz15, sz16, startE, isN, List.length_cons, List.length_nil, List.map_cons, List.map_nil, List.cons_append, List.nil_append, List.getElem?_cons_zero, List.getElem?_cons_succ, List.set_cons_zero, List.set_cons_succ, List.reduceReplicate, Nat.reduceAdd, Nat.reduceSub, Nat.zero_add, Option.map_some, decide_eq_true_eq, Bool.false_eq_true, Bool.not_true, Bool.not_false, if_false, if_true, true_and, and_true, hk, wR_inF (x := D.str w) (xs := [D.str "get", D.str "strike"]) ⟨rfl, rfl⟩, inF, eqF, Option.getD_some]
    by_cases h1 : w = "get"
    · subst h1
      simp (decide := true) [askP, hk, wR_ok, wR_stuck, wR_exc, wR_bind, wR_var, wR_c, wR_1, wR_2, wR_nilA, wR_consA, wR_ite, wR_tup, wR_lst, wR_cellL, wR_asB, wR_test, wR_andT, wR_orT, wR_notT, onB_bl, wR_andV, wR_orV, wR_notV, wR_if, wR_call, wR_chain, wR_slice, wR_noPart, wR_part, wR_okO, wS_next, wS_fNext, wS_seq, wS_ret, wS_retN, wS_expr, wS_asg, wO_set, wO_some, wO_nils, wO_conss, wO_tup, wS_if, wS_for, wS_store, wS_par, on1_e, on2_e, onI_e, wR_range1, wR_range2, onSeq_some, wR_seqI, wR_zip, wR_enum, wR_lc, wR_yes, wR_sub, wR_add, wR_mul, wR_mod, wR_div, wR_pow, wR_neg, wR_lt, wR_le, wR_gt, wR_ge, wR_abs, wR_intC, wR_eqI, wR_eqS, wR_eqB, wR_isN, wR_lenL, wR_lenT, wR_listL, wR_listT, wR_tupL, wR_tupT, onO_some, wR_ixL, wR_ixT, sl_tup, sl_lst, sl_scr, isi_non, sub_non_int, sub_non_bool, sub_non_str, sub_non_tuple, sub_non_list, sub_non_dict, isi_bl, sub_bl_int, sub_bl_bool, sub_bl_str, sub_bl_tuple, sub_bl_list, sub_bl_dict, isi_int, sub_int_int, sub_int_bool, sub_int_str, sub_int_tuple, sub_int_list, sub_int_dict, isi_str, sub_str_int, sub_str_bool, sub_str_str, sub_str_tuple, sub_str_list, sub_str_dict, isi_tup, sub_tup_int, sub_tup_bool, sub_tup_str, sub_tup_tuple, sub_tup_list, sub_tup_dict, isi_lst, sub_lst_int, sub_lst_bool, sub_lst_str, sub_lst_tuple, sub_lst_list, sub_lst_dict, isi_dct, sub_dct_int, sub_dct_bool, sub_dct_str, sub_dct_tuple, sub_dct_list, sub_dct_dict, List.any_cons, List.any_nil, Bool.or_false, Bool.or_true, Bool.false_or, Bool.true_or, wR_addT, wR_addL, wO_star1, wR_inK, wR_inKI, wR_ixK, wR_ixKI, lookK_hit, lookK_nil, Option.isSome_some, Option.isSome_none, seqF_tup, seqF_lst, seqF_scr, sz0, sz1, sz2, sz3, sz4, sz5, sz6, sz7, sz8, sz9, sz10, sz11, sz12, sz13, sz14, sz15, sz16, startE, isN, List.length_cons, List.length_nil, List.map_cons, List.map_nil, List.cons_append, List.nil_append, List.getElem?_cons_zero, List.getElem?_cons_succ, List.set_cons_zero, List.set_cons_succ, List.reduceReplicate, Nat.reduceAdd, Nat.reduceSub, Nat.zero_add, Option.map_some, decide_eq_true_eq, Bool.false_eq_true, Bool.not_true, Bool.not_false, if_false, if_true, true_and, and_true]
      omega
    · by_cases h2 : w = "strike"
      · subst h2
        simp (decide := true) [askP, hk, wR_ok, wR_stuck, wR_exc, wR_bind, wR_var, wR_c, wR_1, wR_2, wR_nilA, wR_consA, wR_ite, wR_tup, wR_lst, wR_cellL, wR_asB, wR_test, wR_andT, wR_orT, wR_notT, onB_bl, wR_andV, wR_orV, wR_notV, wR_if, wR_call, wR_chain, wR_slice, wR_noPart, wR_part, wR_okO, wS_next, wS_fNext, wS_seq, wS_ret, wS_retN, wS_expr, wS_asg, wO_set, wO_some, wO_nils, wO_conss, wO_tup, wS_if, wS_for, wS_store, wS_par, on1_e, on2_e, onI_e, wR_range1, wR_range2, onSeq_some, wR_seqI, wR_zip, wR_enum, wR_lc, wR_yes, wR_sub, wR_add, wR_mul, wR_mod, wR_div, wR_pow, wR_neg, wR_lt, wR_le, wR_gt, wR_ge, wR_abs, wR_intC, wR_eqI, wR_eqS, wR_eqB, wR_isN, wR_lenL, wR_lenT, wR_listL, wR_listT, wR_tupL, wR_tupT, onO_some, wR_ixL, wR_ixT, sl_tup, sl_lst, sl_scr, isi_non, sub_non_int, sub_non_bool, sub_non_str, sub_non_tuple, sub_non_list, sub_non_dict, isi_bl, sub_bl_int, sub_bl_bool, sub_bl_str, sub_bl_tuple, sub_bl_list, sub_bl_dict, isi_int, sub_int_int, sub_int_bool, sub_int_str, sub_int_tuple, sub_int_list, sub_int_dict, isi_str, sub_str_int, sub_str_bool, sub_str_str, sub_str_tuple, sub_str_list, sub_str_dict, isi_tup, sub_tup_int, sub_tup_bool, sub_tup_str, sub_tup_tuple, sub_tup_list, sub_tup_dict, isi_lst, sub_lst_int, sub_lst_bool, sub_lst_str, sub_lst_tuple, sub_lst_list, sub_lst_dict, isi_dct, sub_dct_int, sub_dct_bool, sub_dct_str, sub_dct_tuple, sub_dct_list, sub_dct_dict, List.any_cons, List.any_nil, Bool.or_false, Bool.or_true, Bool.false_or, Bool.true_or, wR_addT, wR_addL, wO_star1, wR_inK, wR_inKI, wR_ixK, wR_ixKI, lookK_hit, lookK_nil, Option.isSome_some, Option.isSome_none, seqF_tup, seqF_lst, seqF_scr, sz0, sz1, sz2, sz3, sz4, sz5, sz6, sz7, sz8, sz9, sz10, sz11, sz12, sz13, sz14, sz15, sz16, startE, isN, List.length_cons, List.length_nil, List.map_cons, List.map_nil, List.cons_append, List.nil_append, List.getElem?_cons_zero, List.getElem?_cons_succ, List.set_cons_zero, List.set_cons_succ, List.reduceReplicate, Nat.reduceAdd, Nat.reduceSub, Nat.zero_add, Option.map_some, decide_eq_true_eq, Bool.false_eq_true, Bool.not_true, Bool.not_false, if_false, if_true, true_and, and_true]
        omega
      · simp only [Ne.symm h1, Ne.symm h2, decide_false, wR_ok, wR_stuck, wR_exc, wR_bind, wR_var, wR_c, wR_1, wR_2, wR_nilA, wR_consA, wR_ite, wR_tup, wR_lst, wR_cellL, wR_asB, wR_test, wR_andT, wR_orT, wR_notT, onB_bl, wR_andV, wR_orV, wR_notV, wR_if, wR_call, wR_chain, wR_slice, wR_noPart, wR_part, wR_okO, wS_next, wS_fNext, wS_seq, wS_ret, wS_retN, wS_expr, wS_asg, wO_set, wO_some, wO_nils, wO_conss, wO_tup, wS_if, wS_for, wS_store, wS_par, on1_e, on2_e, onI_e, wR_range1, wR_range2, onSeq_some, wR_seqI, wR_zip, wR_enum, wR_lc, wR_yes, wR_sub, wR_add, wR_mul, wR_mod, wR_div, wR_pow, wR_neg, wR_lt, wR_le, wR_gt, wR_ge, wR_abs, wR_intC, wR_eqI, wR_eqS, wR_eqB, wR_isN, wR_lenL, wR_lenT, wR_listL, wR_listT, wR_tupL, wR_tupT, onO_some, wR_ixL, wR_ixT, sl_tup, sl_lst, sl_scr, isi_non, sub_non_int, sub_non_bool, sub_non_str, sub_non_tuple, sub_non_list, sub_non_dict, isi_bl, sub_bl_int, sub_bl_bool, sub_bl_str, sub_bl_tuple, sub_bl_list, sub_bl_dict, isi_int, sub_int_int, sub_int_bool, sub_int_str, sub_int_tuple, sub_int_list, sub_int_dict, isi_str, sub_str_int, sub_str_bool, sub_str_str, sub_str_tuple, sub_str_list, sub_str_dict, isi_tup, sub_tup_int, sub_tup_bool, sub_tup_str, sub_tup_tuple, sub_tup_list, sub_tup_dict, isi_lst, sub_lst_int, sub_lst_bool, sub_lst_str, sub_lst_tuple, sub_lst_list, sub_lst_dict, isi_dct, sub_dct_int, sub_dct_bool, sub_dct_str, sub_dct_tuple, sub_dct_list, sub_dct_dict, List.any_cons, List.any_nil, Bool.or_false, Bool.or_true, Bool.false_or, Bool.true_or, wR_addT, wR_addL, wO_star1, wR_inK, wR_inKI, wR_ixK, wR_ixKI, lookK_hit, lookK_nil, Option.isSome_some, Option.isSome_none, seqF_tup, seqF_lst, seqF_scr, sz0, sz1, sz2, sz3, sz4, sz5, sz6, sz7, sz8, sz9, sz10, sz11, sz12, sz13, sz14, sz15, sz16, startE, isN, List.length_cons, List.length_nil, List.map_cons, List.map_nil, List.cons_append, List.nil_append, List.getElem?_cons_zero, List.getElem?_cons_succ, List.set_cons_zero, List.set_cons_succ, List.reduceReplicate, Nat.reduceAdd, Nat.reduceSub, Nat.zero_add, Option.map_some, decide_eq_true_eq, Bool.false_eq_true, Bool.not_true, Bool.not_false, if_false, if_true, true_and, and_true]
        by_cases h3 : w = "put"
        · subst h3
          simp (decide := true) [askP, hk, wR_ok, wR_stuck, wR_exc, wR_bind, wR_var, wR_c, wR_1, wR_2, wR_nilA, wR_consA, wR_ite, wR_tup, wR_lst, wR_cellL, wR_asB, wR_test, wR_andT, wR_orT, wR_notT, onB_bl, wR_andV, wR_orV, wR_notV, wR_if, wR_call, wR_chain, wR_slice, wR_noPart, wR_part, wR_okO, wS_next, wS_fNext, wS_seq, wS_ret, wS_retN, wS_expr, wS_asg, wO_set, wO_some, wO_nils, wO_conss, wO_tup, wS_if, wS_for, wS_store, wS_par, on1_e, on2_e, onI_e, wR_range1, wR_range2, onSeq_some, wR_seqI, wR_zip, wR_enum, wR_lc, wR_yes, wR_sub, wR_add, wR_mul, wR_mod, wR_div, wR_pow, wR_neg, wR_lt, wR_le, wR_gt, wR_ge, wR_abs, wR_intC, wR_eqI, wR_eqS, wR_eqB, wR_isN, wR_lenL, wR_lenT, wR_listL, wR_listT, wR_tupL, wR_tupT, onO_some, wR_ixL, wR_ixT, sl_tup, sl_lst, sl_scr, isi_non, sub_non_int, sub_non_bool, sub_non_str, sub_non_tuple, sub_non_list, sub_non_dict, isi_bl, sub_bl_int, sub_bl_bool, sub_bl_str, sub_bl_tuple, sub_bl_list, sub_bl_dict, isi_int, sub_int_int, sub_int_bool, sub_int_str, sub_int_tuple, sub_int_list, sub_int_dict, isi_str, sub_str_int, sub_str_bool, sub_str_str, sub_str_tuple, sub_str_list, sub_str_dict, isi_tup, sub_tup_int, sub_tup_bool, sub_tup_str, sub_tup_tuple, sub_tup_list, sub_tup_dict, isi_lst, sub_lst_int, sub_lst_bool, sub_lst_str, sub_lst_tuple, sub_lst_list, sub_lst_dict, isi_dct, sub_dct_int, sub_dct_bool, sub_dct_str, sub_dct_tuple, sub_dct_list, sub_dct_dict, List.any_cons, List.any_nil, Bool.or_false, Bool.or_true, Bool.false_or, Bool.true_or, wR_addT, wR_addL, wO_star1, wR_inK, wR_inKI, wR_ixK, wR_ixKI, lookK_hit, lookK_nil, Option.isSome_some, Option.isSome_none, seqF_tup, seqF_lst, seqF_scr, sz0, sz1, sz2, sz3, sz4, sz5, sz6, sz7, sz8, sz9, sz10, sz11, sz12, sz13, sz14, sz15, sz16, startE, isN, List.length_cons, List.length_nil, List.map_cons, List.map_nil, List.cons_append, List.nil_append, List.getElem?_cons_zero, List.getElem?_cons_succ, List.set_cons_zero, List.set_cons_succ, List.reduceReplicate, Nat.reduceAdd, Nat.reduceSub, Nat.zero_add, Option.map_some, decide_eq_true_eq, Bool.false_eq_true, Bool.not_true, Bool.not_false, if_false, if_true, true_and, and_true]
          omega
        · by_cases h4 : w = "walk"
          · subst h4
            by_cases h5 : ns.length = 2
            · match ns, h5, hk with
              | [a, b], _, hk =>
                simp only [List.all_cons, List.all_nil, Bool.and_true, Bool.and_eq_true] at hk
                obtain ⟨hka, hkb⟩ := hk
                cases a <;> first | cases hka | skip
                cases b <;> first | cases hkb | skip
                simp (decide := true) [askP, walkOk, wR_ok, wR_stuck, wR_exc, wR_bind, wR_var, wR_c, wR_1, wR_2, wR_nilA, wR_consA, wR_ite, wR_tup, wR_lst, wR_cellL, wR_asB, wR_test, wR_andT, wR_orT, wR_notT, onB_bl, wR_andV, wR_orV, wR_notV, wR_if, wR_call, wR_chain, wR_slice, wR_noPart, wR_part, wR_okO, wS_next, wS_fNext, wS_seq, wS_ret, wS_retN, wS_expr, wS_asg, wO_set, wO_some, wO_nils, wO_conss, wO_tup, wS_if, wS_for, wS_store, wS_par, on1_e, on2_e, onI_e, wR_range1, wR_range2, onSeq_some, wR_seqI, wR_zip, wR_enum, wR_lc, wR_yes, wR_sub, wR_add, wR_mul, wR_mod, wR_div, wR_pow, wR_neg, wR_lt, wR_le, wR_gt, wR_ge, wR_abs, wR_intC, wR_eqI, wR_eqS, wR_eqB, wR_isN, wR_lenL, wR_lenT, wR_listL, wR_listT, wR_tupL, wR_tupT, onO_some, wR_ixL, wR_ixT, sl_tup, sl_lst, sl_scr, isi_non, sub_non_int, sub_non_bool, sub_non_str, sub_non_tuple, sub_non_list, sub_non_dict, isi_bl, sub_bl_int, sub_bl_bool, sub_bl_str, sub_bl_tuple, sub_bl_list, sub_bl_dict, isi_int, sub_int_int, sub_int_bool, sub_int_str, sub_int_tuple, sub_int_list, sub_int_dict, isi_str, sub_str_int, sub_str_bool, sub_str_str, sub_str_tuple, sub_str_list, sub_str_dict, isi_tup, sub_tup_int, sub_tup_bool, sub_tup_str, sub_tup_tuple, sub_tup_list, sub_tup_dict, isi_lst, sub_lst_int, sub_lst_bool, sub_lst_str, sub_lst_tuple, sub_lst_list, sub_lst_dict, isi_dct, sub_dct_int, sub_dct_bool, sub_dct_str, sub_dct_tuple, sub_dct_list, sub_dct_dict, List.any_cons, List.any_nil, Bool.or_false, Bool.or_true, Bool.false_or, Bool.true_or, wR_addT, wR_addL, wO_star1, wR_inK, wR_inKI, wR_ixK, wR_ixKI, lookK_hit, lookK_nil, Option.isSome_some, Option.isSome_none, seqF_tup, seqF_lst, seqF_scr, sz0, sz1, sz2, sz3, sz4, sz5, sz6, sz7, sz8, sz9, sz10, sz11, sz12, sz13, sz14, sz15, sz16, startE, isN, List.length_cons, List.length_nil, List.map_cons, List.map_nil, List.cons_append, List.nil_append, List.getElem?_cons_zero, List.getElem?_cons_succ, List.set_cons_zero, List.set_cons_succ, List.reduceReplicate, Nat.reduceAdd, Nat.reduceSub, Nat.zero_add, Option.map_some, decide_eq_true_eq, Bool.false_eq_true, Bool.not_true, Bool.not_false, if_false, if_true, true_and, and_true, atI_zero, atI_one, hka, hkb]
            · have h6 : ¬ ((ns.length : Int) = 2) := by omega
              simp only [wR_ok, wR_stuck, wR_exc, wR_bind, wR_var, wR_c, wR_1, wR_2, wR_nilA, wR_consA, wR_ite, wR_tup, wR_lst, wR_cellL, wR_asB, wR_test, wR_andT, wR_orT, wR_notT, onB_bl, wR_andV, wR_orV, wR_notV, wR_if, wR_call, wR_chain, wR_slice, wR_noPart, wR_part, wR_okO, wS_next, wS_fNext, wS_seq, wS_ret, wS_retN, wS_expr, wS_asg, wO_set, wO_some, wO_nils, wO_conss, wO_tup, wS_if, wS_for, wS_store, wS_par, on1_e, on2_e, onI_e, wR_range1, wR_range2, onSeq_some, wR_seqI, wR_zip, wR_enum, wR_lc, wR_yes, wR_sub, wR_add, wR_mul, wR_mod, wR_div, wR_pow, wR_neg, wR_lt, wR_le, wR_gt, wR_ge, wR_abs, wR_intC, wR_eqI, wR_eqS, wR_eqB, wR_isN, wR_lenL, wR_lenT, wR_listL, wR_listT, wR_tupL, wR_tupT, onO_some, wR_ixL, wR_ixT, sl_tup, sl_lst, sl_scr, isi_non, sub_non_int, sub_non_bool, sub_non_str, sub_non_tuple, sub_non_list, sub_non_dict, isi_bl, sub_bl_int, sub_bl_bool, sub_bl_str, sub_bl_tuple, sub_bl_list, sub_bl_dict, isi_int, sub_int_int, sub_int_bool, sub_int_str, sub_int_tuple, sub_int_list, sub_int_dict, isi_str, sub_str_int, sub_str_bool, sub_str_str, sub_str_tuple, sub_str_list, sub_str_dict, isi_tup, sub_tup_int, sub_tup_bool, sub_tup_str, sub_tup_tuple, sub_tup_list, sub_tup_dict, isi_lst, sub_lst_int, sub_lst_bool, sub_lst_str, sub_lst_tuple, sub_lst_list, sub_lst_dict, isi_dct, sub_dct_int, sub_dct_bool, sub_dct_str, sub_dct_tuple, sub_dct_list, sub_dct_dict, List.any_cons, List.any_nil, Bool.or_false, Bool.or_true, Bool.false_or, Bool.true_or, wR_addT, wR_addL, wO_star1, wR_inK, wR_inKI, wR_ixK, wR_ixKI, lookK_hit, lookK_nil, Option.isSome_some, Option.isSome_none, seqF_tup, seqF_lst, seqF_scr, sz0, sz1, sz2, sz3, sz4, sz5, sz6, sz7, sz8, sz9, sz10, sz11, sz12, sz13, sz14, sz15, sz16, startE, isN, List.length_cons, List.length_nil, List.map_cons, List.map_nil, List.cons_append, List.nil_append, List.getElem?_cons_zero, List.getElem?_cons_succ, List.set_cons_zero, List.set_cons_succ, List.reduceReplicate, Nat.reduceAdd, Nat.reduceSub, Nat.zero_add, Option.map_some, decide_eq_true_eq, Bool.false_eq_true, Bool.not_true, Bool.not_false, if_false, if_true, true_and, and_true, h6]
              have h7 : walkOk ns = false := by
                unfold walkOk
                split
                · exact absurd rfl h5
                · rfl
              simp (decide := true) [askP, h7]
          · simp [askP, h1, h2, h3, h4]
theorem laskp_eq {d : D} {t : String} (h : tyF d = some t) (hs : ∀ xs, d = .tup xs → xs.length ≤ sizeLine ∧ ∀ x ∈ xs, ∃ t, tyF x = some t) (g : G) : F__law_is_ask [d] g = .ok (.bl (askP d)) g := by
  refine wR_eq ?_
  unfold F__law_is_ask b__law_is_ask
  by_cases hd : ∃ xs, d = .tup xs
  case neg =>
    cases d <;> cases h <;> first | exact absurd ⟨_, rfl⟩ hd | skip
    all_goals simp [wR_ok, wR_stuck, wR_exc, wR_bind, wR_var, wR_c, wR_1, wR_2, wR_nilA, wR_consA, wR_ite, wR_tup, wR_lst, wR_cellL, wR_asB, wR_test, wR_andT, wR_orT, wR_notT, onB_bl, wR_andV, wR_orV, wR_notV, wR_if, wR_call, wR_chain, wR_slice, wR_noPart, wR_part, wR_okO, wS_next, wS_fNext, wS_seq, wS_ret, wS_retN, wS_expr, wS_asg, wO_set, wO_some, wO_nils, wO_conss, wO_tup, wS_if, wS_for, wS_store, wS_par, on1_e, on2_e, onI_e, wR_range1, wR_range2, onSeq_some, wR_seqI, wR_zip, wR_enum, wR_lc, wR_yes, wR_sub, wR_add, wR_mul, wR_mod, wR_div, wR_pow, wR_neg, wR_lt, wR_le, wR_gt, wR_ge, wR_abs, wR_intC, wR_eqI, wR_eqS, wR_eqB, wR_isN, wR_lenL, wR_lenT, wR_listL, wR_listT, wR_tupL, wR_tupT, onO_some, wR_ixL, wR_ixT, sl_tup, sl_lst, sl_scr, isi_non, sub_non_int, sub_non_bool, sub_non_str, sub_non_tuple, sub_non_list, sub_non_dict, isi_bl, sub_bl_int, sub_bl_bool, sub_bl_str, sub_bl_tuple, sub_bl_list, sub_bl_dict, isi_int, sub_int_int, sub_int_bool, sub_int_str, sub_int_tuple, sub_int_list, sub_int_dict, isi_str, sub_str_int, sub_str_bool, sub_str_str, sub_str_tuple, sub_str_list, sub_str_dict, isi_tup, sub_tup_int, sub_tup_bool, sub_tup_str, sub_tup_tuple, sub_tup_list, sub_tup_dict, isi_lst, sub_lst_int, sub_lst_bool, sub_lst_str, sub_lst_tuple, sub_lst_list, sub_lst_dict, isi_dct, sub_dct_int, sub_dct_bool, sub_dct_str, sub_dct_tuple, sub_dct_list, sub_dct_dict, List.any_cons, List.any_nil, Bool.or_false, Bool.or_true, Bool.false_or, Bool.true_or, wR_addT, wR_addL, wO_star1, wR_inK, wR_inKI, wR_ixK, wR_ixKI, lookK_hit, lookK_nil, Option.isSome_some, Option.isSome_none, seqF_tup, seqF_lst, seqF_scr, sz0, sz1, sz2, sz3, sz4, sz5, sz6, sz7, sz8, sz9, sz10, sz11, sz12, sz13, sz14, sz15, sz16, startE, isN, List.length_cons, List.length_nil, List.map_cons, List.map_nil, List.cons_append, List.nil_append, List.getElem?_cons_zero, List.getElem?_cons_succ, List.set_cons_zero, List.set_cons_succ, List.reduceReplicate, Nat.reduceAdd, Nat.reduceSub, Nat.zero_add, Option.map_some, decide_eq_true_eq, Bool.false_eq_true, Bool.not_true, Bool.not_false, if_false, if_true, true_and, and_true, wR_body, askP]
  obtain ⟨xs, rfl⟩ := hd
  simp only [wR_body, wR_ok, wR_stuck, wR_exc, wR_bind, wR_var, wR_c, wR_1, wR_2, wR_nilA, wR_consA, wR_ite, wR_tup, wR_lst, wR_cellL, wR_asB, wR_test, wR_andT, wR_orT, wR_notT, onB_bl, wR_andV, wR_orV, wR_notV, wR_if, wR_call, wR_chain, wR_slice, wR_noPart, wR_part, wR_okO, wS_next, wS_fNext, wS_seq, wS_ret, wS_retN, wS_expr, wS_asg, wO_set, wO_some, wO_nils, wO_conss, wO_tup, wS_if, wS_for, wS_store, wS_par, on1_e, on2_e, onI_e, wR_range1, wR_range2, onSeq_some, wR_seqI, wR_zip, wR_enum, wR_lc, wR_yes, wR_sub, wR_add, wR_mul, wR_mod, wR_div, wR_pow, wR_neg, wR_lt, wR_le, wR_gt, wR_ge, wR_abs, wR_intC, wR_eqI, wR_eqS, wR_eqB, wR_isN, wR_lenL, wR_lenT, wR_listL, wR_listT, wR_tupL, wR_tupT, onO_some, wR_ixL, wR_ixT, sl_tup, sl_lst, sl_scr, isi_non, sub_non_int, sub_non_bool, sub_non_str, sub_non_tuple, sub_non_list, sub_non_dict, isi_bl, sub_bl_int, sub_bl_bool, sub_bl_str, sub_bl_tuple, sub_bl_list, sub_bl_dict, isi_int, sub_int_int, sub_int_bool, sub_int_str, sub_int_tuple, sub_int_list, sub_int_dict, isi_str, sub_str_int, sub_str_bool, sub_str_str, sub_str_tuple, sub_str_list, sub_str_dict, isi_tup, sub_tup_int, sub_tup_bool, sub_tup_str, sub_tup_tuple, sub_tup_list, sub_tup_dict, isi_lst, sub_lst_int, sub_lst_bool, sub_lst_str, sub_lst_tuple, sub_lst_list, sub_lst_dict, isi_dct, sub_dct_int, sub_dct_bool, sub_dct_str, sub_dct_tuple, sub_dct_list, sub_dct_dict, List.any_cons, List.any_nil, Bool.or_false, Bool.or_true, Bool.false_or, Bool.true_or, wR_addT, wR_addL, wO_star1, wR_inK, wR_inKI, wR_ixK, wR_ixKI, lookK_hit, lookK_nil, Option.isSome_some, Option.isSome_none, seqF_tup, seqF_lst, seqF_scr, sz0, sz1, sz2, sz3, sz4, sz5, sz6, sz7, sz8, sz9, sz10, sz11, sz12, sz13, sz14, sz15, sz16, startE, isN, List.length_cons, List.length_nil, List.map_cons, List.map_nil, List.cons_append, List.nil_append, List.getElem?_cons_zero, List.getElem?_cons_succ, List.set_cons_zero, List.set_cons_succ, List.reduceReplicate, Nat.reduceAdd, Nat.reduceSub, Nat.zero_add, Option.map_some, decide_eq_true_eq, Bool.false_eq_true, Bool.not_true, Bool.not_false, if_false, if_true, true_and, and_true]
  obtain ⟨hl, hx⟩ := hs xs rfl
  cases xs with
  | nil => simp [wR_ok, wR_stuck, wR_exc, wR_bind, wR_var, wR_c, wR_1, wR_2, wR_nilA, wR_consA, wR_ite, wR_tup, wR_lst, wR_cellL, wR_asB, wR_test, wR_andT, wR_orT, wR_notT, onB_bl, wR_andV, wR_orV, wR_notV, wR_if, wR_call, wR_chain, wR_slice, wR_noPart, wR_part, wR_okO, wS_next, wS_fNext, wS_seq, wS_ret, wS_retN, wS_expr, wS_asg, wO_set, wO_some, wO_nils, wO_conss, wO_tup, wS_if, wS_for, wS_store, wS_par, on1_e, on2_e, onI_e, wR_range1, wR_range2, onSeq_some, wR_seqI, wR_zip, wR_enum, wR_lc, wR_yes, wR_sub, wR_add, wR_mul, wR_mod, wR_div, wR_pow, wR_neg, wR_lt, wR_le, wR_gt, wR_ge, wR_abs, wR_intC, wR_eqI, wR_eqS, wR_eqB, wR_isN, wR_lenL, wR_lenT, wR_listL, wR_listT, wR_tupL, wR_tupT, onO_some, wR_ixL, wR_ixT, sl_tup, sl_lst, sl_scr, isi_non, sub_non_int, sub_non_bool, sub_non_str, sub_non_tuple, sub_non_list, sub_non_dict, isi_bl, sub_bl_int, sub_bl_bool, sub_bl_str, sub_bl_tuple, sub_bl_list, sub_bl_dict, isi_int, sub_int_int, sub_int_bool, sub_int_str, sub_int_tuple, sub_int_list, sub_int_dict, isi_str, sub_str_int, sub_str_bool, sub_str_str, sub_str_tuple, sub_str_list, sub_str_dict, isi_tup, sub_tup_int, sub_tup_bool, sub_tup_str, sub_tup_tuple, sub_tup_list, sub_tup_dict, isi_lst, sub_lst_int, sub_lst_bool, sub_lst_str, sub_lst_tuple, sub_lst_list, sub_lst_dict, isi_dct, sub_dct_int, sub_dct_bool, sub_dct_str, sub_dct_tuple, sub_dct_list, sub_dct_dict, List.any_cons, List.any_nil, Bool.or_false, Bool.or_true, Bool.false_or, Bool.true_or, wR_addT, wR_addL, wO_star1, wR_inK, wR_inKI, wR_ixK, wR_ixKI, lookK_hit, lookK_nil, Option.isSome_some, Option.isSome_none, seqF_tup, seqF_lst, seqF_scr, sz0, sz1, sz2, sz3, sz4, sz5, sz6, sz7, sz8, sz9, sz10, sz11, sz12, sz13, sz14, sz15, sz16, startE, isN, List.length_cons, List.length_nil, List.map_cons, List.map_nil, List.cons_append, List.nil_append, List.getElem?_cons_zero, List.getElem?_cons_succ, List.set_cons_zero, List.set_cons_succ, List.reduceReplicate, Nat.reduceAdd, Nat.reduceSub, Nat.zero_add, Option.map_some, decide_eq_true_eq, Bool.false_eq_true, Bool.not_true, Bool.not_false, if_false, if_true, true_and, and_true, askP]
  | cons x ns =>
    obtain ⟨t, ht⟩ := hx x (List.mem_cons_self ..)
    have hns : ∀ x ∈ ns, ∃ t, tyF x = some t := fun y hy => hx y (List.mem_cons_of_mem _ hy)
    have hcomp : ∀ env : Env, 2 < env.length → compF (gSet 2) fYes (fCall F__law_is_key (fConsA (fVar 2) fNilA)) env ns g = .ok (ns.map fun d => D.bl (keyP d)) g := fun env he =>
      compF_pure (fun d => D.bl (keyP d)) ns fun d hd => by
        obtain ⟨t, ht⟩ := hns d hd
        refine ⟨env.set 2 (.val d), ?_, rfl, ?_⟩
        · unfold gSet
          rw [List.getElem?_eq_getElem he]
        · refine wR_eq ?_
          simp only [wR_ok, wR_stuck, wR_exc, wR_bind, wR_var, wR_c, wR_1, wR_2, wR_nilA, wR_consA, wR_ite, wR_tup, wR_lst, wR_cellL, wR_asB, wR_test, wR_andT, wR_orT, wR_notT, onB_bl, wR_andV, wR_orV, wR_notV, wR_if, wR_call, wR_chain, wR_slice, wR_noPart, wR_part, wR_okO, wS_next, wS_fNext, wS_seq, wS_ret, wS_retN, wS_expr, wS_asg, wO_set, wO_some, wO_nils, wO_conss, wO_tup, wS_if, wS_for, wS_store, wS_par, on1_e, on2_e, onI_e, wR_range1, wR_range2, onSeq_some, wR_seqI, wR_zip, wR_enum, wR_lc, wR_yes, wR_sub, wR_add, wR_mul, wR_mod, wR_div, wR_pow, wR_neg, wR_lt, wR_le, wR_gt, wR_ge, wR_abs, wR_intC, wR_eqI, wR_eqS, wR_eqB, wR_isN, wR_lenL, wR_lenT, wR_listL, wR_listT, wR_tupL, wR_tupT, onO_some, wR_ixL, wR_ixT, sl_tup, sl_lst, sl_scr, isi_non, sub_non_int, sub_non_bool, sub_non_str, sub_non_tuple, sub_non_list, sub_non_dict, isi_bl, sub_bl_int, sub_bl_bool, sub_bl_str, sub_bl_tuple, sub_bl_list, sub_bl_dict, isi_int, sub_int_int, sub_int_bool, sub_int_str, sub_int_tuple, sub_int_list, sub_int_dict, isi_str, sub_str_int, sub_str_bool, sub_str_str, sub_str_tuple, sub_str_list, sub_str_dict, isi_tup, sub_tup_int, sub_tup_bool, sub_tup_str, sub_tup_tuple, sub_tup_list, sub_tup_dict, isi_lst, sub_lst_int, sub_lst_bool, sub_lst_str, sub_lst_tuple, sub_lst_list, sub_lst_dict, isi_dct, sub_dct_int, sub_dct_bool, sub_dct_str, sub_dct_tuple, sub_dct_list, sub_dct_dict, List.any_cons, List.any_nil, Bool.or_false, Bool.or_true, Bool.false_or, Bool.true_or, wR_addT, wR_addL, wO_star1, wR_inK, wR_inKI, wR_ixK, wR_ixKI, lookK_hit, lookK_nil, Option.isSome_some, Option.isSome_none, seqF_tup, seqF_lst, seqF_scr, sz0, sz1, sz2, sz3, sz4, sz5, sz6, sz7, sz8, sz9, sz10, sz11, sz12, sz13, sz14, sz15, sz16, startE, isN, List.length_cons, List.length_nil, List.map_cons, List.map_nil, List.cons_append, List.nil_append, List.getElem?_cons_zero, List.getElem?_cons_succ, List.set_cons_zero, List.set_cons_succ, List.reduceReplicate, Nat.reduceAdd, Nat.reduceSub, Nat.zero_add, Option.map_some, decide_eq_true_eq, Bool.false_eq_true, Bool.not_true, Bool.not_false, if_false, if_true, true_and, and_true, List.getElem?_set_self he, eq_wR (lkey_eq ht _)]
    have hl2 : ns.length ≤ sizeLine := by
      rw [List.length_cons] at hl; omega
    cases x <;> cases ht <;> simp only [wR_ok, wR_stuck, wR_exc, wR_bind, wR_var, wR_c, wR_1, wR_2, wR_nilA, wR_consA, wR_ite, wR_tup, wR_lst, wR_cellL, wR_asB, wR_test, wR_andT, wR_orT, wR_notT, onB_bl, wR_andV, wR_orV, wR_notV, wR_if, wR_call, wR_chain, wR_slice, wR_noPart, wR_part, wR_okO, wS_next, wS_fNext, wS_seq, wS_ret, wS_retN, wS_expr, wS_asg, wO_set, wO_some, wO_nils, wO_conss, wO_tup, wS_if, wS_for, wS_store, wS_par, on1_e, on2_e, onI_e, wR_range1, wR_range2, onSeq_some, wR_seqI, wR_zip, wR_enum, wR_lc, wR_yes, wR_sub, wR_add, wR_mul, wR_mod, wR_div, wR_pow, wR_neg, wR_lt, wR_le, wR_gt, wR_ge, wR_abs, wR_intC, wR_eqI, wR_eqS, wR_eqB, wR_isN, wR_lenL, wR_lenT, wR_listL, wR_listT, wR_tupL, wR_tupT, onO_some, wR_ixL, wR_ixT, sl_tup, sl_lst, sl_scr, isi_non, sub_non_int, sub_non_bool, sub_non_str, sub_non_tuple, sub_non_list, sub_non_dict, isi_bl, sub_bl_int, sub_bl_bool, sub_bl_str, sub_bl_tuple, sub_bl_list, sub_bl_dict, isi_int, sub_int_int, sub_int_bool, sub_int_str, sub_int_tuple, sub_int_list, sub_int_dict, isi_str, sub_str_int, sub_str_bool, sub_str_str, sub_str_tuple, sub_str_list, sub_str_dict, isi_tup, sub_tup_int, sub_tup_bool, sub_tup_str, sub_tup_tuple, sub_tup_list, sub_tup_dict, isi_lst, sub_lst_int, sub_lst_bool, sub_lst_str, sub_lst_tuple, sub_lst_list, sub_lst_dict, isi_dct, sub_dct_int, sub_dct_bool, sub_dct_str, sub_dct_tuple, sub_dct_list, sub_dct_dict, List.any_cons, List.any_nil, Bool.or_false, Bool.or_true, Bool.false_or, Bool.true_or, wR_addT, wR_addL, wO_star1, wR_inK, wR_inKI, wR_ixK, wR_ixKI, lookK_hit, lookK_nil, Option.isSome_some, Option.isSome_none, seqF_tup, seqF_lst, seqF_scr, sz0, sz1, sz2, sz3, sz4, sz5, sz6, sz7, sz8, sz9, sz10, sz11, sz12, sz13, sz14, sz15, sz16, startE, isN, List.length_cons, List.length_nil, List.map_cons, List.map_nil, List.cons_append, List.nil_append, List.getElem?_cons_zero, List.getElem?_cons_succ, List.set_cons_zero, List.set_cons_succ, List.reduceReplicate, Nat.reduceAdd, Nat.reduceSub, Nat.zero_add, Option.map_some, decide_eq_true_eq, Bool.false_eq_true, Bool.not_true, Bool.not_false, if_false, if_true, true_and, and_true, atI_zero, cut1] <;> first | (simp [askP]; done) | skip
    rename_i w
    by_cases h0 : ((ns.length + 1 : Nat) : Int) < 2
    · rw [if_pos h0]
      have : ns.length = 0 := by omega
      have : ns = [] := List.length_eq_zero_iff.mp this
      subst this
      simp [askP, walkOk]
    rw [if_neg h0]
    refine ⟨hl2, ?_⟩
    rw [eq_wR (hcomp _ (by simp [wipeE])), wR_all]
    by_cases hk : ns.all keyP = true
    case neg =>
      have hk' : ns.all keyP = false := by simpa using hk
      simp [wR_ok, wR_stuck, wR_exc, wR_bind, wR_var, wR_c, wR_1, wR_2, wR_nilA, wR_consA, wR_ite, wR_tup, wR_lst, wR_cellL, wR_asB, wR_test, wR_andT, wR_orT, wR_notT, onB_bl, wR_andV, wR_orV, wR_notV, wR_if, wR_call, wR_chain, wR_slice, wR_noPart, wR_part, wR_okO, wS_next, wS_fNext, wS_seq, wS_ret, wS_retN, wS_expr, wS_asg, wO_set, wO_some, wO_nils, wO_conss, wO_tup, wS_if, wS_for, wS_store, wS_par, on1_e, on2_e, onI_e, wR_range1, wR_range2, onSeq_some, wR_seqI, wR_zip, wR_enum, wR_lc, wR_yes, wR_sub, wR_add, wR_mul, wR_mod, wR_div, wR_pow, wR_neg, wR_lt, wR_le, wR_gt, wR_ge, wR_abs, wR_intC, wR_eqI, wR_eqS, wR_eqB, wR_isN, wR_lenL, wR_lenT, wR_listL, wR_listT, wR_tupL, wR_tupT, onO_some, wR_ixL, wR_ixT, sl_tup, sl_lst, sl_scr, isi_non, sub_non_int, sub_non_bool, sub_non_str, sub_non_tuple, sub_non_list, sub_non_dict, isi_bl, sub_bl_int, sub_bl_bool, sub_bl_str, sub_bl_tuple, sub_bl_list, sub_bl_dict, isi_int, sub_int_int, sub_int_bool, sub_int_str, sub_int_tuple, sub_int_list, sub_int_dict, isi_str, sub_str_int, sub_str_bool, sub_str_str, sub_str_tuple, sub_str_list, sub_str_dict, isi_tup, sub_tup_int, sub_tup_bool, sub_tup_str, sub_tup_tuple, sub_tup_list, sub_tup_dict, isi_lst, sub_lst_int, sub_lst_bool, sub_lst_str, sub_lst_tuple, sub_lst_list, sub_lst_dict, isi_dct, sub_dct_int, sub_dct_bool, sub_dct_str, sub_dct_tuple, sub_dct_list, sub_dct_dict, List.any_cons, List.any_nil, Bool.or_false, Bool.or_true, Bool.false_or, Bool.true_or, wR_addT, wR_addL, wO_star1, wR_inK, wR_inKI, wR_ixK, wR_ixKI, lookK_hit, lookK_nil, Option.isSome_some, Option.isSome_none, seqF_tup, seqF_lst, seqF_scr, sz0, sz1, sz2, sz3, sz4, sz5, sz6, sz7, sz8, sz9, sz10, sz11, sz12, sz13, sz14, sz15, sz16, startE, isN, List.length_cons, List.length_nil, List.map_cons, List.map_nil, List.cons_append, List.nil_append, List.getElem?_cons_zero, List.getElem?_cons_succ, List.set_cons_zero, List.set_cons_succ, List.reduceReplicate, Nat.reduceAdd, Nat.reduceSub, Nat.zero_add, Option.map_some, decide_eq_true_eq, Bool.false_eq_true, Bool.not_true, Bool.not_false, if_false, if_true, true_and, and_true, askP, hk']
    have hd : ∀ e : Env, fDisp [(fC (.str "get"), fC (.int 2)), (fC (.str "strike"), fC (.int 2)), (fC (.str "put"), fC (.int 3)), (fC (.str "walk"), fC (.int 3))] e g = .ok (.dct [(.inr "get", .int 2), (.inr "strike", .int 2), (.inr "put", .int 3), (.inr "walk", .int 3)]) g := fun e => rfl
    simp only [wR_ok, wR_stuck, wR_exc, wR_bind, wR_var, wR_c, wR_1, wR_2, wR_nilA, wR_consA, wR_ite, wR_tup, wR_lst, wR_cellL, wR_asB, wR_test, wR_andT, wR_orT, wR_notT, onB_bl, wR_andV, wR_orV, wR_notV, wR_if, wR_call, wR_chain, wR_slice, wR_noPart, wR_part, wR_okO, wS_next, wS_fNext, wS_seq, wS_ret, wS_retN, wS_expr, wS_asg, wO_set, wO_some, wO_nils, wO_conss, wO_tup, wS_if, wS_for, wS_store, wS_par, on1_e, on2_e, onI_e, wR_range1, wR_range2, onSeq_some, wR_seqI, wR_zip, wR_enum, wR_lc, wR_yes, wR_sub, wR_add, wR_mul, wR_mod, wR_div, wR_pow, wR_neg, wR_lt, wR_le, wR_gt, wR_ge, wR_abs, wR_intC, wR_eqI, wR_eqS, wR_eqB, wR_isN, wR_lenL, wR_lenT, wR_listL, wR_listT, wR_tupL, wR_tupT, onO_some, wR_ixL, wR_ixT, sl_tup, sl_lst, sl_scr, isi_non, sub_non_int, sub_non_bool, sub_non_str, sub_non_tuple, sub_non_list, sub_non_dict, isi_bl, sub_bl_int, sub_bl_bool, sub_bl_str, sub_bl_tuple, sub_bl_list, sub_bl_dict, isi_int, sub_int_int, sub_int_bool, sub_int_str, sub_int_tuple, sub_int_list, sub_int_dict, isi_str, sub_str_int, sub_str_bool, sub_str_str, sub_str_tuple, sub_str_list, sub_str_dict, isi_tup, sub_tup_int, sub_tup_bool, sub_tup_str, sub_tup_tuple, sub_tup_list, sub_tup_dict, isi_lst, sub_lst_int, sub_lst_bool, sub_lst_str, sub_lst_tuple, sub_lst_list, sub_lst_dict, isi_dct, sub_dct_int, sub_dct_bool, sub_dct_str, sub_dct_tuple, sub_dct_list, sub_dct_dict, List.any_cons, List.any_nil, Bool.or_false, Bool.or_true, Bool.false_or, Bool.true_or, wR_addT, wR_addL, wO_star1, wR_inK, wR_inKI, wR_ixK, wR_ixKI, lookK_hit, lookK_nil, Option.isSome_some, Option.isSome_none, seqF_tup, seqF_lst, seqF_scr, sz0, sz1, sz2, sz3, sz4, sz5, sz6, sz7, sz8, sz9, sz10, sz11, sz12, sz13, sz14, sz15, sz16, startE, isN, List.length_cons, List.length_nil, List.map_cons, List.map_nil, List.cons_append, List.nil_append, List.getElem?_cons_zero, List.getElem?_cons_succ, List.set_cons_zero, List.set_cons_succ, List.reduceReplicate, Nat.reduceAdd, Nat.reduceSub, Nat.zero_add, Option.map_some, decide_eq_true_eq, Bool.false_eq_true, Bool.not_true, Bool.not_false, if_false, if_true, true_and, and_true, hk, eq_wR (hd _)]
    have l1 : lookK [((.inr "get" : Key), D.int 2), (.inr "strike", .int 2), (.inr "put", .int 3), (.inr "walk", .int 3)] (.inr "get") = some (.int 2) := rfl
    have l2 : lookK [((.inr "get" : Key), D.int 2), (.inr "strike", .int 2), (.inr "put", .int 3), (.inr "walk", .int 3)] (.inr "strike") = some (.int 2) := rfl
    have l3 : lookK [((.inr "get" : Key), D.int 2), (.inr "strike", .int 2), (.inr "put", .int 3), (.inr "walk", .int 3)] (.inr "put") = some (.int 3) := rfl
    have l4 : lookK [((.inr "get" : Key), D.int 2), (.inr "strike", .int 2), (.inr "put", .int 3), (.inr "walk", .int 3)] (.inr "walk") = some (.int 3) := rfl
    by_cases h1 : w = "get"
    · subst h1
      simp (decide := true) only [l1, wR_ok, wR_stuck, wR_exc, wR_bind, wR_var, wR_c, wR_1, wR_2, wR_nilA, wR_consA, wR_ite, wR_tup, wR_lst, wR_cellL, wR_asB, wR_test, wR_andT, wR_orT, wR_notT, onB_bl, wR_andV, wR_orV, wR_notV, wR_if, wR_call, wR_chain, wR_slice, wR_noPart, wR_part, wR_okO, wS_next, wS_fNext, wS_seq, wS_ret, wS_retN, wS_expr, wS_asg, wO_set, wO_some, wO_nils, wO_conss, wO_tup, wS_if, wS_for, wS_store, wS_par, on1_e, on2_e, onI_e, wR_range1, wR_range2, onSeq_some, wR_seqI, wR_zip, wR_enum, wR_lc, wR_yes, wR_sub, wR_add, wR_mul, wR_mod, wR_div, wR_pow, wR_neg, wR_lt, wR_le, wR_gt, wR_ge, wR_abs, wR_intC, wR_eqI, wR_eqS, wR_eqB, wR_isN, wR_lenL, wR_lenT, wR_listL, wR_listT, wR_tupL, wR_tupT, onO_some, wR_ixL, wR_ixT, sl_tup, sl_lst, sl_scr, isi_non, sub_non_int, sub_non_bool, sub_non_str, sub_non_tuple, sub_non_list, sub_non_dict, isi_bl, sub_bl_int, sub_bl_bool, sub_bl_str, sub_bl_tuple, sub_bl_list, sub_bl_dict, isi_int, sub_int_int, sub_int_bool, sub_int_str, sub_int_tuple, sub_int_list, sub_int_dict, isi_str, sub_str_int, sub_str_bool, sub_str_str, sub_str_tuple, sub_str_list, sub_str_dict, isi_tup, sub_tup_int, sub_tup_bool, sub_tup_str, sub_tup_tuple, sub_tup_list, sub_tup_dict, isi_lst, sub_lst_int, sub_lst_bool, sub_lst_str, sub_lst_tuple, sub_lst_list, sub_lst_dict, isi_dct, sub_dct_int, sub_dct_bool, sub_dct_str, sub_dct_tuple, sub_dct_list, sub_dct_dict, List.any_cons, List.any_nil, Bool.or_false, Bool.or_true, Bool.false_or, Bool.true_or, wR_addT, wR_addL, wO_star1, wR_inK, wR_inKI, wR_ixK, wR_ixKI, lookK_hit, lookK_nil, Option.isSome_some, Option.isSome_none, seqF_tup, seqF_lst, seqF_scr, sz0, sz1, sz2, sz3, sz4, sz5, sz6, sz7, sz8, sz9, sz10, sz11, sz12, sz13, sz14, sz15, sz16, startE, isN, List.length_cons, List.length_nil, List.map_cons, List.map_nil, List.cons_append, List.nil_append, List.getElem?_cons_zero, List.getElem?_cons_succ, List.set_cons_zero, List.set_cons_succ, List.reduceReplicate, Nat.reduceAdd, Nat.reduceSub, Nat.zero_add, Option.map_some, decide_eq_true_eq, Bool.false_eq_true, Bool.not_true, Bool.not_false, if_false, if_true, true_and, and_true]
      by_cases h5 : ns.length = 1 <;> simp (decide := true) [askP, hk, h5, wR_ok, wR_stuck, wR_exc, wR_bind, wR_var, wR_c, wR_1, wR_2, wR_nilA, wR_consA, wR_ite, wR_tup, wR_lst, wR_cellL, wR_asB, wR_test, wR_andT, wR_orT, wR_notT, onB_bl, wR_andV, wR_orV, wR_notV, wR_if, wR_call, wR_chain, wR_slice, wR_noPart, wR_part, wR_okO, wS_next, wS_fNext, wS_seq, wS_ret, wS_retN, wS_expr, wS_asg, wO_set, wO_some, wO_nils, wO_conss, wO_tup, wS_if, wS_for, wS_store, wS_par, on1_e, on2_e, onI_e, wR_range1, wR_range2, onSeq_some, wR_seqI, wR_zip, wR_enum, wR_lc, wR_yes, wR_sub, wR_add, wR_mul, wR_mod, wR_div, wR_pow, wR_neg, wR_lt, wR_le, wR_gt, wR_ge, wR_abs, wR_intC, wR_eqI, wR_eqS, wR_eqB, wR_isN, wR_lenL, wR_lenT, wR_listL, wR_listT, wR_tupL, wR_tupT, onO_some, wR_ixL, wR_ixT, sl_tup, sl_lst, sl_scr, isi_non, sub_non_int, sub_non_bool, sub_non_str, sub_non_tuple, sub_non_list, sub_non_dict, isi_bl, sub_bl_int, sub_bl_bool, sub_bl_str, sub_bl_tuple, sub_bl_list, sub_bl_dict, isi_int, sub_int_int, sub_int_bool, sub_int_str, sub_int_tuple, sub_int_list, sub_int_dict, isi_str, sub_str_int, sub_str_bool, sub_str_str, sub_str_tuple, sub_str_list, sub_str_dict, isi_tup, sub_tup_int, sub_tup_bool, sub_tup_str, sub_tup_tuple, sub_tup_list, sub_tup_dict, isi_lst, sub_lst_int, sub_lst_bool, sub_lst_str, sub_lst_tuple, sub_lst_list, sub_lst_dict, isi_dct, sub_dct_int, sub_dct_bool, sub_dct_str, sub_dct_tuple, sub_dct_list, sub_dct_dict, List.any_cons, List.any_nil, Bool.or_false, Bool.or_true, Bool.false_or, Bool.true_or, wR_addT, wR_addL, wO_star1, wR_inK, wR_inKI, wR_ixK, wR_ixKI, lookK_hit, lookK_nil, Option.isSome_some, Option.isSome_none, seqF_tup, seqF_lst, seqF_scr, sz0, sz1, sz2, sz3, sz4, sz5, sz6, sz7, sz8, sz9, sz10, sz11, sz12, sz13, sz14, sz15, sz16, startE, isN, List.length_cons, List.length_nil, List.map_cons, List.map_nil, List.cons_append, List.nil_append, List.getElem?_cons_zero, List.getElem?_cons_succ, List.set_cons_zero, List.set_cons_succ, List.reduceReplicate, Nat.reduceAdd, Nat.reduceSub, Nat.zero_add, Option.map_some, decide_eq_true_eq, Bool.false_eq_true, Bool.not_true, Bool.not_false, if_false, if_true, true_and, and_true] <;> omega
    · by_cases h2 : w = "strike"
      · subst h2
        simp (decide := true) only [l2, wR_ok, wR_stuck, wR_exc, wR_bind, wR_var, wR_c, wR_1, wR_2, wR_nilA, wR_consA, wR_ite, wR_tup, wR_lst, wR_cellL, wR_asB, wR_test, wR_andT, wR_orT, wR_notT, onB_bl, wR_andV, wR_orV, wR_notV, wR_if, wR_call, wR_chain, wR_slice, wR_noPart, wR_part, wR_okO, wS_next, wS_fNext, wS_seq, wS_ret, wS_retN, wS_expr, wS_asg, wO_set, wO_some, wO_nils, wO_conss, wO_tup, wS_if, wS_for, wS_store, wS_par, on1_e, on2_e, onI_e, wR_range1, wR_range2, onSeq_some, wR_seqI, wR_zip, wR_enum, wR_lc, wR_yes, wR_sub, wR_add, wR_mul, wR_mod, wR_div, wR_pow, wR_neg, wR_lt, wR_le, wR_gt, wR_ge, wR_abs, wR_intC, wR_eqI, wR_eqS, wR_eqB, wR_isN, wR_lenL, wR_lenT, wR_listL, wR_listT, wR_tupL, wR_tupT, onO_some, wR_ixL, wR_ixT, sl_tup, sl_lst, sl_scr, isi_non, sub_non_int, sub_non_bool, sub_non_str, sub_non_tuple, sub_non_list, sub_non_dict, isi_bl, sub_bl_int, sub_bl_bool, sub_bl_str, sub_bl_tuple, sub_bl_list, sub_bl_dict, isi_int, sub_int_int, sub_int_bool, sub_int_str, sub_int_tuple, sub_int_list, sub_int_dict, isi_str, sub_str_int, sub_str_bool, sub_str_str, sub_str_tuple, sub_str_list, sub_str_dict, isi_tup, sub_tup_int, sub_tup_bool, sub_tup_str, sub_tup_tuple, sub_tup_list, sub_tup_dict, isi_lst, sub_lst_int, sub_lst_bool, sub_lst_str, sub_lst_tuple, sub_lst_list, sub_lst_dict, isi_dct, sub_dct_int, sub_dct_bool, sub_dct_str, sub_dct_tuple, sub_dct_list, sub_dct_dict, List.any_cons, List.any_nil, Bool.or_false, Bool.or_true, Bool.false_or, Bool.true_or, wR_addT, wR_addL, wO_star1, wR_inK, wR_inKI, wR_ixK, wR_ixKI, lookK_hit, lookK_nil, Option.isSome_some, Option.isSome_none, seqF_tup, seqF_lst, seqF_scr, sz0, sz1, sz2, sz3, sz4, sz5, sz6, sz7, sz8, sz9, sz10, sz11, sz12, sz13, sz14, sz15, sz16, startE, isN, List.length_cons, List.length_nil, List.map_cons, List.map_nil, List.cons_append, List.nil_append, List.getElem?_cons_zero, List.getElem?_cons_succ, List.set_cons_zero, List.set_cons_succ, List.reduceReplicate, Nat.reduceAdd, Nat.reduceSub, Nat.zero_add, Option.map_some, decide_eq_true_eq, Bool.false_eq_true, Bool.not_true, Bool.not_false, if_false, if_true, true_and, and_true]
        by_cases h5 : ns.length = 1 <;> simp (decide := true) [askP, hk, h5, wR_ok, wR_stuck, wR_exc, wR_bind, wR_var, wR_c, wR_1, wR_2, wR_nilA, wR_consA, wR_ite, wR_tup, wR_lst, wR_cellL, wR_asB, wR_test, wR_andT, wR_orT, wR_notT, onB_bl, wR_andV, wR_orV, wR_notV, wR_if, wR_call, wR_chain, wR_slice, wR_noPart, wR_part, wR_okO, wS_next, wS_fNext, wS_seq, wS_ret, wS_retN, wS_expr, wS_asg, wO_set, wO_some, wO_nils, wO_conss, wO_tup, wS_if, wS_for, wS_store, wS_par, on1_e, on2_e, onI_e, wR_range1, wR_range2, onSeq_some, wR_seqI, wR_zip, wR_enum, wR_lc, wR_yes, wR_sub, wR_add, wR_mul, wR_mod, wR_div, wR_pow, wR_neg, wR_lt, wR_le, wR_gt, wR_ge, wR_abs, wR_intC, wR_eqI, wR_eqS, wR_eqB, wR_isN, wR_lenL, wR_lenT, wR_listL, wR_listT, wR_tupL, wR_tupT, onO_some, wR_ixL, wR_ixT, sl_tup, sl_lst, sl_scr, isi_non, sub_non_int, sub_non_bool, sub_non_str, sub_non_tuple, sub_non_list, sub_non_dict, isi_bl, sub_bl_int, sub_bl_bool, sub_bl_str, sub_bl_tuple, sub_bl_list, sub_bl_dict, isi_int, sub_int_int, sub_int_bool, sub_int_str, sub_int_tuple, sub_int_list, sub_int_dict, isi_str, sub_str_int, sub_str_bool, sub_str_str, sub_str_tuple, sub_str_list, sub_str_dict, isi_tup, sub_tup_int, sub_tup_bool, sub_tup_str, sub_tup_tuple, sub_tup_list, sub_tup_dict, isi_lst, sub_lst_int, sub_lst_bool, sub_lst_str, sub_lst_tuple, sub_lst_list, sub_lst_dict, isi_dct, sub_dct_int, sub_dct_bool, sub_dct_str, sub_dct_tuple, sub_dct_list, sub_dct_dict, List.any_cons, List.any_nil, Bool.or_false, Bool.or_true, Bool.false_or, Bool.true_or, wR_addT, wR_addL, wO_star1, wR_inK, wR_inKI, wR_ixK, wR_ixKI, lookK_hit, lookK_nil, Option.isSome_some, Option.isSome_none, seqF_tup, seqF_lst, seqF_scr, sz0, sz1, sz2, sz3, sz4, sz5, sz6, sz7, sz8, sz9, sz10, sz11, sz12, sz13, sz14, sz15, sz16, startE, isN, List.length_cons, List.length_nil, List.map_cons, List.map_nil, List.cons_append, List.nil_append, List.getElem?_cons_zero, List.getElem?_cons_succ, List.set_cons_zero, List.set_cons_succ, List.reduceReplicate, Nat.reduceAdd, Nat.reduceSub, Nat.zero_add, Option.map_some, decide_eq_true_eq, Bool.false_eq_true, Bool.not_true, Bool.not_false, if_false, if_true, true_and, and_true] <;> omega
      · by_cases h3 : w = "put"
        · subst h3
          simp (decide := true) only [l3, wR_ok, wR_stuck, wR_exc, wR_bind, wR_var, wR_c, wR_1, wR_2, wR_nilA, wR_consA, wR_ite, wR_tup, wR_lst, wR_cellL, wR_asB, wR_test, wR_andT, wR_orT, wR_notT, onB_bl, wR_andV, wR_orV, wR_notV, wR_if, wR_call, wR_chain, wR_slice, wR_noPart, wR_part, wR_okO, wS_next, wS_fNext, wS_seq, wS_ret, wS_retN, wS_expr, wS_asg, wO_set, wO_some, wO_nils, wO_conss, wO_tup, wS_if, wS_for, wS_store, wS_par, on1_e, on2_e, onI_e, wR_range1, wR_range2, onSeq_some, wR_seqI, wR_zip, wR_enum, wR_lc, wR_yes, wR_sub, wR_add, wR_mul, wR_mod, wR_div, wR_pow, wR_neg, wR_lt, wR_le, wR_gt, wR_ge, wR_abs, wR_intC, wR_eqI, wR_eqS, wR_eqB, wR_isN, wR_lenL, wR_lenT, wR_listL, wR_listT, wR_tupL, wR_tupT, onO_some, wR_ixL, wR_ixT, sl_tup, sl_lst, sl_scr, isi_non, sub_non_int, sub_non_bool, sub_non_str, sub_non_tuple, sub_non_list, sub_non_dict, isi_bl, sub_bl_int, sub_bl_bool, sub_bl_str, sub_bl_tuple, sub_bl_list, sub_bl_dict, isi_int, sub_int_int, sub_int_bool, sub_int_str, sub_int_tuple, sub_int_list, sub_int_dict, isi_str, sub_str_int, sub_str_bool, sub_str_str, sub_str_tuple, sub_str_list, sub_str_dict, isi_tup, sub_tup_int, sub_tup_bool, sub_tup_str, sub_tup_tuple, sub_tup_list, sub_tup_dict, isi_lst, sub_lst_int, sub_lst_bool, sub_lst_str, sub_lst_tuple, sub_lst_list, sub_lst_dict, isi_dct, sub_dct_int, sub_dct_bool, sub_dct_str, sub_dct_tuple, sub_dct_list, sub_dct_dict, List.any_cons, List.any_nil, Bool.or_false, Bool.or_true, Bool.false_or, Bool.true_or, wR_addT, wR_addL, wO_star1, wR_inK, wR_inKI, wR_ixK, wR_ixKI, lookK_hit, lookK_nil, Option.isSome_some, Option.isSome_none, seqF_tup, seqF_lst, seqF_scr, sz0, sz1, sz2, sz3, sz4, sz5, sz6, sz7, sz8, sz9, sz10, sz11, sz12, sz13, sz14, sz15, sz16, startE, isN, List.length_cons, List.length_nil, List.map_cons, List.map_nil, List.cons_append, List.nil_append, List.getElem?_cons_zero, List.getElem?_cons_succ, List.set_cons_zero, List.set_cons_succ, List.reduceReplicate, Nat.reduceAdd, Nat.reduceSub, Nat.zero_add, Option.map_some, decide_eq_true_eq, Bool.false_eq_true, Bool.not_true, Bool.not_false, if_false, if_true, true_and, and_true]
          by_cases h5 : ns.length = 2 <;> simp (decide := true) [askP, hk, h5, wR_ok, wR_stuck, wR_exc, wR_bind, wR_var, wR_c, wR_1, wR_2, wR_nilA, wR_consA, wR_ite, wR_tup, wR_lst, wR_cellL, wR_asB, wR_test, wR_andT, wR_orT, wR_notT, onB_bl, wR_andV, wR_orV, wR_notV, wR_if, wR_call, wR_chain, wR_slice, wR_noPart, wR_part, wR_okO, wS_next, wS_fNext, wS_seq, wS_ret, wS_retN, wS_expr, wS_asg, wO_set, wO_some, wO_nils, wO_conss, wO_tup, wS_if, wS_for, wS_store, wS_par, on1_e, on2_e, onI_e, wR_range1, wR_range2, onSeq_some, wR_seqI, wR_zip, wR_enum, wR_lc, wR_yes, wR_sub, wR_add, wR_mul, wR_mod, wR_div, wR_pow, wR_neg, wR_lt, wR_le, wR_gt, wR_ge, wR_abs, wR_intC, wR_eqI, wR_eqS, wR_eqB, wR_isN, wR_lenL, wR_lenT, wR_listL, wR_listT, wR_tupL, wR_tupT, onO_some, wR_ixL, wR_ixT, sl_tup, sl_lst, sl_scr, isi_non, sub_non_int, sub_non_bool, sub_non_str, sub_non_tuple, sub_non_list, sub_non_dict, isi_bl, sub_bl_int, sub_bl_bool, sub_bl_str, sub_bl_tuple, sub_bl_list, sub_bl_dict, isi_int, sub_int_int, sub_int_bool, sub_int_str, sub_int_tuple, sub_int_list, sub_int_dict, isi_str, sub_str_int, sub_str_bool, sub_str_str, sub_str_tuple, sub_str_list, sub_str_dict, isi_tup, sub_tup_int, sub_tup_bool, sub_tup_str, sub_tup_tuple, sub_tup_list, sub_tup_dict, isi_lst, sub_lst_int, sub_lst_bool, sub_lst_str, sub_lst_tuple, sub_lst_list, sub_lst_dict, isi_dct, sub_dct_int, sub_dct_bool, sub_dct_str, sub_dct_tuple, sub_dct_list, sub_dct_dict, List.any_cons, List.any_nil, Bool.or_false, Bool.or_true, Bool.false_or, Bool.true_or, wR_addT, wR_addL, wO_star1, wR_inK, wR_inKI, wR_ixK, wR_ixKI, lookK_hit, lookK_nil, Option.isSome_some, Option.isSome_none, seqF_tup, seqF_lst, seqF_scr, sz0, sz1, sz2, sz3, sz4, sz5, sz6, sz7, sz8, sz9, sz10, sz11, sz12, sz13, sz14, sz15, sz16, startE, isN, List.length_cons, List.length_nil, List.map_cons, List.map_nil, List.cons_append, List.nil_append, List.getElem?_cons_zero, List.getElem?_cons_succ, List.set_cons_zero, List.set_cons_succ, List.reduceReplicate, Nat.reduceAdd, Nat.reduceSub, Nat.zero_add, Option.map_some, decide_eq_true_eq, Bool.false_eq_true, Bool.not_true, Bool.not_false, if_false, if_true, true_and, and_true] <;> omega
        · by_cases h4 : w = "walk"
          · subst h4
            simp (decide := true) only [l4, wR_ok, wR_stuck, wR_exc, wR_bind, wR_var, wR_c, wR_1, wR_2, wR_nilA, wR_consA, wR_ite, wR_tup, wR_lst, wR_cellL, wR_asB, wR_test, wR_andT, wR_orT, wR_notT, onB_bl, wR_andV, wR_orV, wR_notV, wR_if, wR_call, wR_chain, wR_slice, wR_noPart, wR_part, wR_okO, wS_next, wS_fNext, wS_seq, wS_ret, wS_retN, wS_expr, wS_asg, wO_set, wO_some, wO_nils, wO_conss, wO_tup, wS_if, wS_for, wS_store, wS_par, on1_e, on2_e, onI_e, wR_range1, wR_range2, onSeq_some, wR_seqI, wR_zip, wR_enum, wR_lc, wR_yes, wR_sub, wR_add, wR_mul, wR_mod, wR_div, wR_pow, wR_neg, wR_lt, wR_le, wR_gt, wR_ge, wR_abs, wR_intC, wR_eqI, wR_eqS, wR_eqB, wR_isN, wR_lenL, wR_lenT, wR_listL, wR_listT, wR_tupL, wR_tupT, onO_some, wR_ixL, wR_ixT, sl_tup, sl_lst, sl_scr, isi_non, sub_non_int, sub_non_bool, sub_non_str, sub_non_tuple, sub_non_list, sub_non_dict, isi_bl, sub_bl_int, sub_bl_bool, sub_bl_str, sub_bl_tuple, sub_bl_list, sub_bl_dict, isi_int, sub_int_int, sub_int_bool, sub_int_str, sub_int_tuple, sub_int_list, sub_int_dict, isi_str, sub_str_int, sub_str_bool, sub_str_str, sub_str_tuple, sub_str_list, sub_str_dict, isi_tup, sub_tup_int, sub_tup_bool, sub_tup_str, sub_tup_tuple, sub_tup_list, sub_tup_dict, isi_lst, sub_lst_int, sub_lst_bool, sub_lst_str, sub_lst_tuple, sub_lst_list, sub_lst_dict, isi_dct, sub_dct_int, sub_dct_bool, sub_dct_str, sub_dct_tuple, sub_dct_list, sub_dct_dict, List.any_cons, List.any_nil, Bool.or_false, Bool.or_true, Bool.false_or, Bool.true_or, wR_addT, wR_addL, wO_star1, wR_inK, wR_inKI, wR_ixK, wR_ixKI, lookK_hit, lookK_nil, Option.isSome_some, Option.isSome_none, seqF_tup, seqF_lst, seqF_scr, sz0, sz1, sz2, sz3, sz4, sz5, sz6, sz7, sz8, sz9, sz10, sz11, sz12, sz13, sz14, sz15, sz16, startE, isN, List.length_cons, List.length_nil, List.map_cons, List.map_nil, List.cons_append, List.nil_append, List.getElem?_cons_zero, List.getElem?_cons_succ, List.set_cons_zero, List.set_cons_succ, List.reduceReplicate, Nat.reduceAdd, Nat.reduceSub, Nat.zero_add, Option.map_some, decide_eq_true_eq, Bool.false_eq_true, Bool.not_true, Bool.not_false, if_false, if_true, true_and, and_true]
            by_cases h5 : ns.length = 2
            · match ns, h5, hk with
              | [a, b], _, hk =>
                simp only [List.all_cons, List.all_nil, Bool.and_true, Bool.and_eq_true] at hk
                obtain ⟨hka, hkb⟩ := hk
                cases a <;> first | cases hka | skip
                cases b <;> first | cases hkb | skip
                simp (decide := true) [askP, walkOk, wR_ok, wR_stuck, wR_exc, wR_bind, wR_var, wR_c, wR_1, wR_2, wR_nilA, wR_consA, wR_ite, wR_tup, wR_lst, wR_cellL, wR_asB, wR_test, wR_andT, wR_orT, wR_notT, onB_bl, wR_andV, wR_orV, wR_notV, wR_if, wR_call, wR_chain, wR_slice, wR_noPart, wR_part, wR_okO, wS_next, wS_fNext, wS_seq, wS_ret, wS_retN, wS_expr, wS_asg, wO_set, wO_some, wO_nils, wO_conss, wO_tup, wS_if, wS_for, wS_store, wS_par, on1_e, on2_e, onI_e, wR_range1, wR_range2, onSeq_some, wR_seqI, wR_zip, wR_enum, wR_lc, wR_yes, wR_sub, wR_add, wR_mul, wR_mod, wR_div, wR_pow, wR_neg, wR_lt, wR_le, wR_gt, wR_ge, wR_abs, wR_intC, wR_eqI, wR_eqS, wR_eqB, wR_isN, wR_lenL, wR_lenT, wR_listL, wR_listT, wR_tupL, wR_tupT, onO_some, wR_ixL, wR_ixT, sl_tup, sl_lst, sl_scr, isi_non, sub_non_int, sub_non_bool, sub_non_str, sub_non_tuple, sub_non_list, sub_non_dict, isi_bl, sub_bl_int, sub_bl_bool, sub_bl_str, sub_bl_tuple, sub_bl_list, sub_bl_dict, isi_int, sub_int_int, sub_int_bool, sub_int_str, sub_int_tuple, sub_int_list, sub_int_dict, isi_str, sub_str_int, sub_str_bool, sub_str_str, sub_str_tuple, sub_str_list, sub_str_dict, isi_tup, sub_tup_int, sub_tup_bool, sub_tup_str, sub_tup_tuple, sub_tup_list, sub_tup_dict, isi_lst, sub_lst_int, sub_lst_bool, sub_lst_str, sub_lst_tuple, sub_lst_list, sub_lst_dict, isi_dct, sub_dct_int, sub_dct_bool, sub_dct_str, sub_dct_tuple, sub_dct_list, sub_dct_dict, List.any_cons, List.any_nil, Bool.or_false, Bool.or_true, Bool.false_or, Bool.true_or, wR_addT, wR_addL, wO_star1, wR_inK, wR_inKI, wR_ixK, wR_ixKI, lookK_hit, lookK_nil, Option.isSome_some, Option.isSome_none, seqF_tup, seqF_lst, seqF_scr, sz0, sz1, sz2, sz3, sz4, sz5, sz6, sz7, sz8, sz9, sz10, sz11, sz12, sz13, sz14, sz15, sz16, startE, isN, List.length_cons, List.length_nil, List.map_cons, List.map_nil, List.cons_append, List.nil_append, List.getElem?_cons_zero, List.getElem?_cons_succ, List.set_cons_zero, List.set_cons_succ, List.reduceReplicate, Nat.reduceAdd, Nat.reduceSub, Nat.zero_add, Option.map_some, decide_eq_true_eq, Bool.false_eq_true, Bool.not_true, Bool.not_false, if_false, if_true, true_and, and_true, atI_two, atI_one, hka, hkb]
            · have h6 : ¬ ((2 : Int) = ns.length) := by omega
              have h8 : ¬ ((3 : Int) = ((ns.length + 1 : Nat) : Int)) := by omega
              have h7 : walkOk ns = false := by
                unfold walkOk
                split
                · exact absurd rfl h5
                · rfl
              simp only [h8, wR_ok, wR_stuck, wR_exc, wR_bind, wR_var, wR_c, wR_1, wR_2, wR_nilA, wR_consA, wR_ite, wR_tup, wR_lst, wR_cellL, wR_asB, wR_test, wR_andT, wR_orT, wR_notT, onB_bl, wR_andV, wR_orV, wR_notV, wR_if, wR_call, wR_chain, wR_slice, wR_noPart, wR_part, wR_okO, wS_next, wS_fNext, wS_seq, wS_ret, wS_retN, wS_expr, wS_asg, wO_set, wO_some, wO_nils, wO_conss, wO_tup, wS_if, wS_for, wS_store, wS_par, on1_e, on2_e, onI_e, wR_range1, wR_range2, onSeq_some, wR_seqI, wR_zip, wR_enum, wR_lc, wR_yes, wR_sub, wR_add, wR_mul, wR_mod, wR_div, wR_pow, wR_neg, wR_lt, wR_le, wR_gt, wR_ge, wR_abs, wR_intC, wR_eqI, wR_eqS, wR_eqB, wR_isN, wR_lenL, wR_lenT, wR_listL, wR_listT, wR_tupL, wR_tupT, onO_some, wR_ixL, wR_ixT, sl_tup, sl_lst, sl_scr, isi_non, sub_non_int, sub_non_bool, sub_non_str, sub_non_tuple, sub_non_list, sub_non_dict, isi_bl, sub_bl_int, sub_bl_bool, sub_bl_str, sub_bl_tuple, sub_bl_list, sub_bl_dict, isi_int, sub_int_int, sub_int_bool, sub_int_str, sub_int_tuple, sub_int_list, sub_int_dict, isi_str, sub_str_int, sub_str_bool, sub_str_str, sub_str_tuple, sub_str_list, sub_str_dict, isi_tup, sub_tup_int, sub_tup_bool, sub_tup_str, sub_tup_tuple, sub_tup_list, sub_tup_dict, isi_lst, sub_lst_int, sub_lst_bool, sub_lst_str, sub_lst_tuple, sub_lst_list, sub_lst_dict, isi_dct, sub_dct_int, sub_dct_bool, sub_dct_str, sub_dct_tuple, sub_dct_list, sub_dct_dict, List.any_cons, List.any_nil, Bool.or_false, Bool.or_true, Bool.false_or, Bool.true_or, wR_addT, wR_addL, wO_star1, wR_inK, wR_inKI, wR_ixK, wR_ixKI, lookK_hit, lookK_nil, Option.isSome_some, Option.isSome_none, seqF_tup, seqF_lst, seqF_scr, sz0, sz1, sz2, sz3, sz4, sz5, sz6, sz7, sz8, sz9, sz10, sz11, sz12, sz13, sz14, sz15, sz16, startE, isN, List.length_cons, List.length_nil, List.map_cons, List.map_nil, List.cons_append, List.nil_append, List.getElem?_cons_zero, List.getElem?_cons_succ, List.set_cons_zero, List.set_cons_succ, List.reduceReplicate, Nat.reduceAdd, Nat.reduceSub, Nat.zero_add, Option.map_some, decide_eq_true_eq, Bool.false_eq_true, Bool.not_true, Bool.not_false, if_false, if_true, true_and, and_true, decide_false]
              simp (decide := true) [askP, h7]
          · have l5 : lookK [((.inr "get" : Key), D.int 2), (.inr "strike", .int 2), (.inr "put", .int 3), (.inr "walk", .int 3)] (.inr w) = none := by
              simp [lookK, Ne.symm h1, Ne.symm h2, Ne.symm h3, Ne.symm h4]
            simp [l5, askP, h1, h2, h3, h4, wR_ok, wR_stuck, wR_exc, wR_bind, wR_var, wR_c, wR_1, wR_2, wR_nilA, wR_consA, wR_ite, wR_tup, wR_lst, wR_cellL, wR_asB, wR_test, wR_andT, wR_orT, wR_notT, onB_bl, wR_andV, wR_orV, wR_notV, wR_if, wR_call, wR_chain, wR_slice, wR_noPart, wR_part, wR_okO, wS_next, wS_fNext, wS_seq, wS_ret, wS_retN, wS_expr, wS_asg, wO_set, wO_some, wO_nils, wO_conss, wO_tup, wS_if, wS_for, wS_store, wS_par, on1_e, on2_e, onI_e, wR_range1, wR_range2, onSeq_some, wR_seqI, wR_zip, wR_enum, wR_lc, wR_yes, wR_sub, wR_add, wR_mul, wR_mod, wR_div, wR_pow, wR_neg, wR_lt, wR_le, wR_gt, wR_ge, wR_abs, wR_intC, wR_eqI, wR_eqS, wR_eqB, wR_isN, wR_lenL, wR_lenT, wR_listL, wR_listT, wR_tupL, wR_tupT, onO_some, wR_ixL, wR_ixT, sl_tup, sl_lst, sl_scr, isi_non, sub_non_int, sub_non_bool, sub_non_str, sub_non_tuple, sub_non_list, sub_non_dict, isi_bl, sub_bl_int, sub_bl_bool, sub_bl_str, sub_bl_tuple, sub_bl_list, sub_bl_dict, isi_int, sub_int_int, sub_int_bool, sub_int_str, sub_int_tuple, sub_int_list, sub_int_dict, isi_str, sub_str_int, sub_str_bool, sub_str_str, sub_str_tuple, sub_str_list, sub_str_dict, isi_tup, sub_tup_int, sub_tup_bool, sub_tup_str, sub_tup_tuple, sub_tup_list, sub_tup_dict, isi_lst, sub_lst_int, sub_lst_bool, sub_lst_str, sub_lst_tuple, sub_lst_list, sub_lst_dict, isi_dct, sub_dct_int, sub_dct_bool, sub_dct_str, sub_dct_tuple, sub_dct_list, sub_dct_dict, List.any_cons, List.any_nil, Bool.or_false, Bool.or_true, Bool.false_or, Bool.true_or, wR_addT, wR_addL, wO_star1, wR_inK, wR_inKI, wR_ixK, wR_ixKI, lookK_hit, lookK_nil, Option.isSome_some, Option.isSome_none, seqF_tup, seqF_lst, seqF_scr, sz0, sz1, sz2, sz3, sz4, sz5, sz6, sz7, sz8, sz9, sz10, sz11, sz12, sz13, sz14, sz15, sz16, startE, isN, List.length_cons, List.length_nil, List.map_cons, List.map_nil, List.cons_append, List.nil_append, List.getElem?_cons_zero, List.getElem?_cons_succ, List.set_cons_zero, List.set_cons_succ, List.reduceReplicate, Nat.reduceAdd, Nat.reduceSub, Nat.zero_add, Option.map_some, decide_eq_true_eq, Bool.false_eq_true, Bool.not_true, Bool.not_false, if_false, if_true, true_and, and_true]
theorem same_refl : ∀ (n : Nat) (d : D) (g : G), treeD n d → R__law_same n [d, d] g = .ok (.bl true) g
  | 0, _, _, h => h.elim
  | n + 1, d, g, h => by
    have ih := fun d h => same_refl n d g h
    have hc : ∀ (env : Env) (xs : List D), 3 < env.length → (∀ x ∈ xs, treeD n x) → compF (gTupF (gConss (gSet 2) (gConss (gSet 3) gNils)) 2) fYes (fCall (R__law_same n) (fConsA (fVar 2) (fConsA (fVar 3) fNilA))) env (zipD xs xs) g = .ok ((zipD xs xs).map fun _ => D.bl true) g := fun env xs he hx =>
      compF_pure (fun _ => D.bl true) _ fun d hd => by
        obtain ⟨x, hxm, rfl⟩ := mem_zipSelf hd
        refine ⟨(env.set 2 (.val x)).set 3 (.val x), ?_, rfl, ?_⟩
        · have e2 : env[2]? = some env[2] := List.getElem?_eq_getElem (by omega)
          have e3 : (env.set 2 (.val x))[3]? = some env[3] := by rw [List.getElem?_set_ne (by decide)]; exact List.getElem?_eq_getElem he
          simp only [gTupF, gConss, gSet, gNils, List.length_cons, List.length_nil, e2, e3, Option.bind_some, if_true]
        · refine wR_eq ?_
          have e3 : ((env.set 2 (.val x)).set 3 (.val x))[3]? = some (.val x) := List.getElem?_set_self (by simpa using he)
          have e2 : ((env.set 2 (.val x)).set 3 (.val x))[2]? = some (.val x) := by rw [List.getElem?_set_ne (by decide)]; exact List.getElem?_set_self (by omega)
          simp only [wR_ok, wR_stuck, wR_exc, wR_bind, wR_var, wR_c, wR_1, wR_2, wR_nilA, wR_consA, wR_ite, wR_tup, wR_lst, wR_cellL, wR_asB, wR_test, wR_andT, wR_orT, wR_notT, onB_bl, wR_andV, wR_orV, wR_notV, wR_if, wR_call, wR_chain, wR_slice, wR_noPart, wR_part, wR_okO, wS_next, wS_fNext, wS_seq, wS_ret, wS_retN, wS_expr, wS_asg, wO_set, wO_some, wO_nils, wO_conss, wO_tup, wS_if, wS_for, wS_store, wS_par, on1_e, on2_e, onI_e, wR_range1, wR_range2, onSeq_some, wR_seqI, wR_zip, wR_enum, wR_lc, wR_yes, wR_sub, wR_add, wR_mul, wR_mod, wR_div, wR_pow, wR_neg, wR_lt, wR_le, wR_gt, wR_ge, wR_abs, wR_intC, wR_eqI, wR_eqS, wR_eqB, wR_isN, wR_lenL, wR_lenT, wR_listL, wR_listT, wR_tupL, wR_tupT, onO_some, wR_ixL, wR_ixT, sl_tup, sl_lst, sl_scr, isi_non, sub_non_int, sub_non_bool, sub_non_str, sub_non_tuple, sub_non_list, sub_non_dict, isi_bl, sub_bl_int, sub_bl_bool, sub_bl_str, sub_bl_tuple, sub_bl_list, sub_bl_dict, isi_int, sub_int_int, sub_int_bool, sub_int_str, sub_int_tuple, sub_int_list, sub_int_dict, isi_str, sub_str_int, sub_str_bool, sub_str_str, sub_str_tuple, sub_str_list, sub_str_dict, isi_tup, sub_tup_int, sub_tup_bool, sub_tup_str, sub_tup_tuple, sub_tup_list, sub_tup_dict, isi_lst, sub_lst_int, sub_lst_bool, sub_lst_str, sub_lst_tuple, sub_lst_list, sub_lst_dict, isi_dct, sub_dct_int, sub_dct_bool, sub_dct_str, sub_dct_tuple, sub_dct_list, sub_dct_dict, List.any_cons, List.any_nil, Bool.or_false, Bool.or_true, Bool.false_or, Bool.true_or, wR_addT, wR_addL, wO_star1, wR_inK, wR_inKI, wR_ixK, wR_ixKI, lookK_hit, lookK_nil, Option.isSome_some, Option.isSome_none, seqF_tup, seqF_lst, seqF_scr, sz0, sz1, sz2, sz3, sz4, sz5, sz6, sz7, sz8, sz9, sz10, sz11, sz12, sz13, sz14, sz15, sz16, startE, isN, List.length_cons, List.length_nil, List.map_cons, List.map_nil, List.cons_append, List.nil_append, List.getElem?_cons_zero, List.getElem?_cons_succ, List.set_cons_zero, List.set_cons_succ, List.reduceReplicate, Nat.reduceAdd, Nat.reduceSub, Nat.zero_add, Option.map_some, decide_eq_true_eq, Bool.false_eq_true, Bool.not_true, Bool.not_false, if_false, if_true, true_and, and_true, e2, e3, eq_wR (ih x (hx x hxm))]
    refine wR_eq ?_
    show wR (bodyF 2 4 (b__law_same (R__law_same n)) [d, d] g) _ _
    unfold b__law_same
    have hz : ∀ xs : List D, (zipD xs xs).length = xs.length := fun xs => by rw [zipD_length]; omega
    cases d <;> first | exact h.elim | skip
    all_goals first | (simp [wR_body, wR_ok, wR_stuck, wR_exc, wR_bind, wR_var, wR_c, wR_1, wR_2, wR_nilA, wR_consA, wR_ite, wR_tup, wR_lst, wR_cellL, wR_asB, wR_test, wR_andT, wR_orT, wR_notT, onB_bl, wR_andV, wR_orV, wR_notV, wR_if, wR_call, wR_chain, wR_slice, wR_noPart, wR_part, wR_okO, wS_next, wS_fNext, wS_seq, wS_ret, wS_retN, wS_expr, wS_asg, wO_set, wO_some, wO_nils, wO_conss, wO_tup, wS_if, wS_for, wS_store, wS_par, on1_e, on2_e, onI_e, wR_range1, wR_range2, onSeq_some, wR_seqI, wR_zip, wR_enum, wR_lc, wR_yes, wR_sub, wR_add, wR_mul, wR_mod, wR_div, wR_pow, wR_neg, wR_lt, wR_le, wR_gt, wR_ge, wR_abs, wR_intC, wR_eqI, wR_eqS, wR_eqB, wR_isN, wR_lenL, wR_lenT, wR_listL, wR_listT, wR_tupL, wR_tupT, onO_some, wR_ixL, wR_ixT, sl_tup, sl_lst, sl_scr, isi_non, sub_non_int, sub_non_bool, sub_non_str, sub_non_tuple, sub_non_list, sub_non_dict, isi_bl, sub_bl_int, sub_bl_bool, sub_bl_str, sub_bl_tuple, sub_bl_list, sub_bl_dict, isi_int, sub_int_int, sub_int_bool, sub_int_str, sub_int_tuple, sub_int_list, sub_int_dict, isi_str, sub_str_int, sub_str_bool, sub_str_str, sub_str_tuple, sub_str_list, sub_str_dict, isi_tup, sub_tup_int, sub_tup_bool, sub_tup_str, sub_tup_tuple, sub_tup_list, sub_tup_dict, isi_lst, sub_lst_int, sub_lst_bool, sub_lst_str, sub_lst_tuple, sub_lst_list, sub_lst_dict, isi_dct, sub_dct_int, sub_dct_bool, sub_dct_str, sub_dct_tuple, sub_dct_list, sub_dct_dict, List.any_cons, List.any_nil, Bool.or_false, Bool.or_true, Bool.false_or, Bool.true_or, wR_addT, wR_addL, wO_star1, wR_inK, wR_inKI, wR_ixK, wR_ixKI, lookK_hit, lookK_nil, Option.isSome_some, Option.isSome_none, seqF_tup, seqF_lst, seqF_scr, sz0, sz1, sz2, sz3, sz4, sz5, sz6, sz7, sz8, sz9, sz10, sz11, sz12, sz13, sz14, sz15, sz16, startE, isN, List.length_cons, List.length_nil, List.map_cons, List.map_nil, List.cons_append, List.nil_append, List.getElem?_cons_zero, List.getElem?_cons_succ, List.set_cons_zero, List.set_cons_succ, List.reduceReplicate, Nat.reduceAdd, Nat.reduceSub, Nat.zero_add, Option.map_some, decide_eq_true_eq, Bool.false_eq_true, Bool.not_true, Bool.not_false, if_false, if_true, true_and, and_true]; done) | skip
    · rename_i xs
      simp (decide := true) only [wR_body, wR_ok, wR_stuck, wR_exc, wR_bind, wR_var, wR_c, wR_1, wR_2, wR_nilA, wR_consA, wR_ite, wR_tup, wR_lst, wR_cellL, wR_asB, wR_test, wR_andT, wR_orT, wR_notT, onB_bl, wR_andV, wR_orV, wR_notV, wR_if, wR_call, wR_chain, wR_slice, wR_noPart, wR_part, wR_okO, wS_next, wS_fNext, wS_seq, wS_ret, wS_retN, wS_expr, wS_asg, wO_set, wO_some, wO_nils, wO_conss, wO_tup, wS_if, wS_for, wS_store, wS_par, on1_e, on2_e, onI_e, wR_range1, wR_range2, onSeq_some, wR_seqI, wR_zip, wR_enum, wR_lc, wR_yes, wR_sub, wR_add, wR_mul, wR_mod, wR_div, wR_pow, wR_neg, wR_lt, wR_le, wR_gt, wR_ge, wR_abs, wR_intC, wR_eqI, wR_eqS, wR_eqB, wR_isN, wR_lenL, wR_lenT, wR_listL, wR_listT, wR_tupL, wR_tupT, onO_some, wR_ixL, wR_ixT, sl_tup, sl_lst, sl_scr, isi_non, sub_non_int, sub_non_bool, sub_non_str, sub_non_tuple, sub_non_list, sub_non_dict, isi_bl, sub_bl_int, sub_bl_bool, sub_bl_str, sub_bl_tuple, sub_bl_list, sub_bl_dict, isi_int, sub_int_int, sub_int_bool, sub_int_str, sub_int_tuple, sub_int_list, sub_int_dict, isi_str, sub_str_int, sub_str_bool, sub_str_str, sub_str_tuple, sub_str_list, sub_str_dict, isi_tup, sub_tup_int, sub_tup_bool, sub_tup_str, sub_tup_tuple, sub_tup_list, sub_tup_dict, isi_lst, sub_lst_int, sub_lst_bool, sub_lst_str, sub_lst_tuple, sub_lst_list, sub_lst_dict, isi_dct, sub_dct_int, sub_dct_bool, sub_dct_str, sub_dct_tuple, sub_dct_list, sub_dct_dict, List.any_cons, List.any_nil, Bool.or_false, Bool.or_true, Bool.false_or, Bool.true_or, wR_addT, wR_addL, wO_star1, wR_inK, wR_inKI, wR_ixK, wR_ixKI, lookK_hit, lookK_nil, Option.isSome_some, Option.isSome_none, seqF_tup, seqF_lst, seqF_scr, sz0, sz1, sz2, sz3, sz4, sz5, sz6, sz7, sz8, sz9, sz10, sz11, sz12, sz13, sz14, sz15, sz16, startE, isN, List.length_cons, List.length_nil, List.map_cons, List.map_nil, List.cons_append, List.nil_append, List.getElem?_cons_zero, List.getElem?_cons_succ, List.set_cons_zero, List.set_cons_succ, List.reduceReplicate, Nat.reduceAdd, Nat.reduceSub, Nat.zero_add, Option.map_some, decide_eq_true_eq, Bool.false_eq_true, Bool.not_true, Bool.not_false, if_false, if_true, true_and, and_true, hz]
      refine ⟨h.1, ?_⟩
      rw [eq_wR (hc _ xs (by simp [wipeE]) h.2), wR_all_true (n := 0)]
      exact ⟨rfl, rfl⟩
    · rename_i xs
      simp (decide := true) only [wR_body, wR_ok, wR_stuck, wR_exc, wR_bind, wR_var, wR_c, wR_1, wR_2, wR_nilA, wR_consA, wR_ite, wR_tup, wR_lst, wR_cellL, wR_asB, wR_test, wR_andT, wR_orT, wR_notT, onB_bl, wR_andV, wR_orV, wR_notV, wR_if, wR_call, wR_chain, wR_slice, wR_noPart, wR_part, wR_okO, wS_next, wS_fNext, wS_seq, wS_ret, wS_retN, wS_expr, wS_asg, wO_set, wO_some, wO_nils, wO_conss, wO_tup, wS_if, wS_for, wS_store, wS_par, on1_e, on2_e, onI_e, wR_range1, wR_range2, onSeq_some, wR_seqI, wR_zip, wR_enum, wR_lc, wR_yes, wR_sub, wR_add, wR_mul, wR_mod, wR_div, wR_pow, wR_neg, wR_lt, wR_le, wR_gt, wR_ge, wR_abs, wR_intC, wR_eqI, wR_eqS, wR_eqB, wR_isN, wR_lenL, wR_lenT, wR_listL, wR_listT, wR_tupL, wR_tupT, onO_some, wR_ixL, wR_ixT, sl_tup, sl_lst, sl_scr, isi_non, sub_non_int, sub_non_bool, sub_non_str, sub_non_tuple, sub_non_list, sub_non_dict, isi_bl, sub_bl_int, sub_bl_bool, sub_bl_str, sub_bl_tuple, sub_bl_list, sub_bl_dict, isi_int, sub_int_int, sub_int_bool, sub_int_str, sub_int_tuple, sub_int_list, sub_int_dict, isi_str, sub_str_int, sub_str_bool, sub_str_str, sub_str_tuple, sub_str_list, sub_str_dict, isi_tup, sub_tup_int, sub_tup_bool, sub_tup_str, sub_tup_tuple, sub_tup_list, sub_tup_dict, isi_lst, sub_lst_int, sub_lst_bool, sub_lst_str, sub_lst_tuple, sub_lst_list, sub_lst_dict, isi_dct, sub_dct_int, sub_dct_bool, sub_dct_str, sub_dct_tuple, sub_dct_list, sub_dct_dict, List.any_cons, List.any_nil, Bool.or_false, Bool.or_true, Bool.false_or, Bool.true_or, wR_addT, wR_addL, wO_star1, wR_inK, wR_inKI, wR_ixK, wR_ixKI, lookK_hit, lookK_nil, Option.isSome_some, Option.isSome_none, seqF_tup, seqF_lst, seqF_scr, sz0, sz1, sz2, sz3, sz4, sz5, sz6, sz7, sz8, sz9, sz10, sz11, sz12, sz13, sz14, sz15, sz16, startE, isN, List.length_cons, List.length_nil, List.map_cons, List.map_nil, List.cons_append, List.nil_append, List.getElem?_cons_zero, List.getElem?_cons_succ, List.set_cons_zero, List.set_cons_succ, List.reduceReplicate, Nat.reduceAdd, Nat.reduceSub, Nat.zero_add, Option.map_some, decide_eq_true_eq, Bool.false_eq_true, Bool.not_true, Bool.not_false, if_false, if_true, true_and, and_true, hz]
      refine ⟨h.1, ?_⟩
      rw [eq_wR (hc _ xs (by simp [wipeE]) h.2), wR_all_true (n := 0)]
      exact ⟨rfl, rfl⟩
/-- what has a plain type, and so have its items -/
def TyD (d : D) : Prop := (∃ t, tyF d = some t) ∧ ∀ xs, d = .tup xs → xs.length ≤ sizeLine ∧ ∀ x ∈ xs, ∃ t, tyF x = some t
def AskD (d : D) : Prop := ∃ xs, d = .tup xs ∧ 0 < xs.length ∧ xs.length ≤ 3 ∧ ∀ x ∈ xs, ∃ t, tyF x = some t
theorem key_ok {k : Nat} {g : G} {Q : D → G → Prop} {X : Exn → G → Prop} (hb : BagAt g k) (hQ : ∀ (r : Int) (c : Cell), BagC c → Q (.int r) (g.set k c)) : wR (F__law_key [.ref k] g) Q X := by
  unfold F__law_key b__law_key
  rw [wR_body]
  refine ⟨rfl, ?_⟩
  simp only [wR_ok, wR_stuck, wR_exc, wR_bind, wR_var, wR_c, wR_1, wR_2, wR_nilA, wR_consA, wR_ite, wR_tup, wR_lst, wR_cellL, wR_asB, wR_test, wR_andT, wR_orT, wR_notT, onB_bl, wR_andV, wR_orV, wR_notV, wR_if, wR_call, wR_chain, wR_slice, wR_noPart, wR_part, wR_okO, wS_next, wS_fNext, wS_seq, wS_ret, wS_retN, wS_expr, wS_asg, wO_set, wO_some, wO_nils, wO_conss, wO_tup, wS_if, wS_for, wS_store, wS_par, on1_e, on2_e, onI_e, wR_range1, wR_range2, onSeq_some, wR_seqI, wR_zip, wR_enum, wR_lc, wR_yes, wR_sub, wR_add, wR_mul, wR_mod, wR_div, wR_pow, wR_neg, wR_lt, wR_le, wR_gt, wR_ge, wR_abs, wR_intC, wR_eqI, wR_eqS, wR_eqB, wR_isN, wR_lenL, wR_lenT, wR_listL, wR_listT, wR_tupL, wR_tupT, onO_some, wR_ixL, wR_ixT, sl_tup, sl_lst, sl_scr, isi_non, sub_non_int, sub_non_bool, sub_non_str, sub_non_tuple, sub_non_list, sub_non_dict, isi_bl, sub_bl_int, sub_bl_bool, sub_bl_str, sub_bl_tuple, sub_bl_list, sub_bl_dict, isi_int, sub_int_int, sub_int_bool, sub_int_str, sub_int_tuple, sub_int_list, sub_int_dict, isi_str, sub_str_int, sub_str_bool, sub_str_str, sub_str_tuple, sub_str_list, sub_str_dict, isi_tup, sub_tup_int, sub_tup_bool, sub_tup_str, sub_tup_tuple, sub_tup_list, sub_tup_dict, isi_lst, sub_lst_int, sub_lst_bool, sub_lst_str, sub_lst_tuple, sub_lst_list, sub_lst_dict, isi_dct, sub_dct_int, sub_dct_bool, sub_dct_str, sub_dct_tuple, sub_dct_list, sub_dct_dict, List.any_cons, List.any_nil, Bool.or_false, Bool.or_true, Bool.false_or, Bool.true_or, wR_addT, wR_addL, wO_star1, wR_inK, wR_inKI, wR_ixK, wR_ixKI, lookK_hit, lookK_nil, Option.isSome_some, Option.isSome_none, seqF_tup, seqF_lst, seqF_scr, sz0, sz1, sz2, sz3, sz4, sz5, sz6, sz7, sz8, sz9, sz10, sz11, sz12, sz13, sz14, sz15, sz16, startE, isN, List.length_cons, List.length_nil, List.map_cons, List.map_nil, List.cons_append, List.nil_append, List.getElem?_cons_zero, List.getElem?_cons_succ, List.set_cons_zero, List.set_cons_succ, List.reduceReplicate, Nat.reduceAdd, Nat.reduceSub, Nat.zero_add, Option.map_some, decide_eq_true_eq, Bool.false_eq_true, Bool.not_true, Bool.not_false, if_false, if_true, true_and, and_true]
  refine pull_ok k 12 _ _ _ hb (by decide) (by decide) fun r c hc _ _ => ?_
  have hb1 := hb.set hc
  simp only [wR_ok, wR_stuck, wR_exc, wR_bind, wR_var, wR_c, wR_1, wR_2, wR_nilA, wR_consA, wR_ite, wR_tup, wR_lst, wR_cellL, wR_asB, wR_test, wR_andT, wR_orT, wR_notT, onB_bl, wR_andV, wR_orV, wR_notV, wR_if, wR_call, wR_chain, wR_slice, wR_noPart, wR_part, wR_okO, wS_next, wS_fNext, wS_seq, wS_ret, wS_retN, wS_expr, wS_asg, wO_set, wO_some, wO_nils, wO_conss, wO_tup, wS_if, wS_for, wS_store, wS_par, on1_e, on2_e, onI_e, wR_range1, wR_range2, onSeq_some, wR_seqI, wR_zip, wR_enum, wR_lc, wR_yes, wR_sub, wR_add, wR_mul, wR_mod, wR_div, wR_pow, wR_neg, wR_lt, wR_le, wR_gt, wR_ge, wR_abs, wR_intC, wR_eqI, wR_eqS, wR_eqB, wR_isN, wR_lenL, wR_lenT, wR_listL, wR_listT, wR_tupL, wR_tupT, onO_some, wR_ixL, wR_ixT, sl_tup, sl_lst, sl_scr, isi_non, sub_non_int, sub_non_bool, sub_non_str, sub_non_tuple, sub_non_list, sub_non_dict, isi_bl, sub_bl_int, sub_bl_bool, sub_bl_str, sub_bl_tuple, sub_bl_list, sub_bl_dict, isi_int, sub_int_int, sub_int_bool, sub_int_str, sub_int_tuple, sub_int_list, sub_int_dict, isi_str, sub_str_int, sub_str_bool, sub_str_str, sub_str_tuple, sub_str_list, sub_str_dict, isi_tup, sub_tup_int, sub_tup_bool, sub_tup_str, sub_tup_tuple, sub_tup_list, sub_tup_dict, isi_lst, sub_lst_int, sub_lst_bool, sub_lst_str, sub_lst_tuple, sub_lst_list, sub_lst_dict, isi_dct, sub_dct_int, sub_dct_bool, sub_dct_str, sub_dct_tuple, sub_dct_list, sub_dct_dict, List.any_cons, List.any_nil, Bool.or_false, Bool.or_true, Bool.false_or, Bool.true_or, wR_addT, wR_addL, wO_star1, wR_inK, wR_inKI, wR_ixK, wR_ixKI, lookK_hit, lookK_nil, Option.isSome_some, Option.isSome_none, seqF_tup, seqF_lst, seqF_scr, sz0, sz1, sz2, sz3, sz4, sz5, sz6, sz7, sz8, sz9, sz10, sz11, sz12, sz13, sz14, sz15, sz16, startE, isN, List.length_cons, List.length_nil, List.map_cons, List.map_nil, List.cons_append, List.nil_append, List.getElem?_cons_zero, List.getElem?_cons_succ, List.set_cons_zero, List.set_cons_succ, List.reduceReplicate, Nat.reduceAdd, Nat.reduceSub, Nat.zero_add, Option.map_some, decide_eq_true_eq, Bool.false_eq_true, Bool.not_true, Bool.not_false, if_false, if_true, true_and, and_true]
  split
  · refine ⟨by decide, pull_ok k 9 _ _ _ hb1 (by decide) (by decide) fun r2 c2 hc2 _ _ => ?_⟩
    rw [List.set_set]
    exact hQ _ _ hc2
  · split
    · refine pull_ok k 9 _ _ _ hb1 (by decide) (by decide) fun r2 c2 hc2 _ _ => ?_
      simp only [wR_ok, wR_stuck, wR_exc, wR_bind, wR_var, wR_c, wR_1, wR_2, wR_nilA, wR_consA, wR_ite, wR_tup, wR_lst, wR_cellL, wR_asB, wR_test, wR_andT, wR_orT, wR_notT, onB_bl, wR_andV, wR_orV, wR_notV, wR_if, wR_call, wR_chain, wR_slice, wR_noPart, wR_part, wR_okO, wS_next, wS_fNext, wS_seq, wS_ret, wS_retN, wS_expr, wS_asg, wO_set, wO_some, wO_nils, wO_conss, wO_tup, wS_if, wS_for, wS_store, wS_par, on1_e, on2_e, onI_e, wR_range1, wR_range2, onSeq_some, wR_seqI, wR_zip, wR_enum, wR_lc, wR_yes, wR_sub, wR_add, wR_mul, wR_mod, wR_div, wR_pow, wR_neg, wR_lt, wR_le, wR_gt, wR_ge, wR_abs, wR_intC, wR_eqI, wR_eqS, wR_eqB, wR_isN, wR_lenL, wR_lenT, wR_listL, wR_listT, wR_tupL, wR_tupT, onO_some, wR_ixL, wR_ixT, sl_tup, sl_lst, sl_scr, isi_non, sub_non_int, sub_non_bool, sub_non_str, sub_non_tuple, sub_non_list, sub_non_dict, isi_bl, sub_bl_int, sub_bl_bool, sub_bl_str, sub_bl_tuple, sub_bl_list, sub_bl_dict, isi_int, sub_int_int, sub_int_bool, sub_int_str, sub_int_tuple, sub_int_list, sub_int_dict, isi_str, sub_str_int, sub_str_bool, sub_str_str, sub_str_tuple, sub_str_list, sub_str_dict, isi_tup, sub_tup_int, sub_tup_bool, sub_tup_str, sub_tup_tuple, sub_tup_list, sub_tup_dict, isi_lst, sub_lst_int, sub_lst_bool, sub_lst_str, sub_lst_tuple, sub_lst_list, sub_lst_dict, isi_dct, sub_dct_int, sub_dct_bool, sub_dct_str, sub_dct_tuple, sub_dct_list, sub_dct_dict, List.any_cons, List.any_nil, Bool.or_false, Bool.or_true, Bool.false_or, Bool.true_or, wR_addT, wR_addL, wO_star1, wR_inK, wR_inKI, wR_ixK, wR_ixKI, lookK_hit, lookK_nil, Option.isSome_some, Option.isSome_none, seqF_tup, seqF_lst, seqF_scr, sz0, sz1, sz2, sz3, sz4, sz5, sz6, sz7, sz8, sz9, sz10, sz11, sz12, sz13, sz14, sz15, sz16, startE, isN, List.length_cons, List.length_nil, List.map_cons, List.map_nil, List.cons_append, List.nil_append, List.getElem?_cons_zero, List.getElem?_cons_succ, List.set_cons_zero, List.set_cons_succ, List.reduceReplicate, Nat.reduceAdd, Nat.reduceSub, Nat.zero_add, Option.map_some, decide_eq_true_eq, Bool.false_eq_true, Bool.not_true, Bool.not_false, if_false, if_true, true_and, and_true, List.set_set]
      exact ⟨by decide, hQ _ _ hc2⟩
    · refine pull_ok k 14 _ _ _ hb1 (by decide) (by decide) fun r2 c2 hc2 _ _ => ?_
      simp only [wR_ok, wR_stuck, wR_exc, wR_bind, wR_var, wR_c, wR_1, wR_2, wR_nilA, wR_consA, wR_ite, wR_tup, wR_lst, wR_cellL, wR_asB, wR_test, wR_andT, wR_orT, wR_notT, onB_bl, wR_andV, wR_orV, wR_notV, wR_if, wR_call, wR_chain, wR_slice, wR_noPart, wR_part, wR_okO, wS_next, wS_fNext, wS_seq, wS_ret, wS_retN, wS_expr, wS_asg, wO_set, wO_some, wO_nils, wO_conss, wO_tup, wS_if, wS_for, wS_store, wS_par, on1_e, on2_e, onI_e, wR_range1, wR_range2, onSeq_some, wR_seqI, wR_zip, wR_enum, wR_lc, wR_yes, wR_sub, wR_add, wR_mul, wR_mod, wR_div, wR_pow, wR_neg, wR_lt, wR_le, wR_gt, wR_ge, wR_abs, wR_intC, wR_eqI, wR_eqS, wR_eqB, wR_isN, wR_lenL, wR_lenT, wR_listL, wR_listT, wR_tupL, wR_tupT, onO_some, wR_ixL, wR_ixT, sl_tup, sl_lst, sl_scr, isi_non, sub_non_int, sub_non_bool, sub_non_str, sub_non_tuple, sub_non_list, sub_non_dict, isi_bl, sub_bl_int, sub_bl_bool, sub_bl_str, sub_bl_tuple, sub_bl_list, sub_bl_dict, isi_int, sub_int_int, sub_int_bool, sub_int_str, sub_int_tuple, sub_int_list, sub_int_dict, isi_str, sub_str_int, sub_str_bool, sub_str_str, sub_str_tuple, sub_str_list, sub_str_dict, isi_tup, sub_tup_int, sub_tup_bool, sub_tup_str, sub_tup_tuple, sub_tup_list, sub_tup_dict, isi_lst, sub_lst_int, sub_lst_bool, sub_lst_str, sub_lst_tuple, sub_lst_list, sub_lst_dict, isi_dct, sub_dct_int, sub_dct_bool, sub_dct_str, sub_dct_tuple, sub_dct_list, sub_dct_dict, List.any_cons, List.any_nil, Bool.or_false, Bool.or_true, Bool.false_or, Bool.true_or, wR_addT, wR_addL, wO_star1, wR_inK, wR_inKI, wR_ixK, wR_ixKI, lookK_hit, lookK_nil, Option.isSome_some, Option.isSome_none, seqF_tup, seqF_lst, seqF_scr, sz0, sz1, sz2, sz3, sz4, sz5, sz6, sz7, sz8, sz9, sz10, sz11, sz12, sz13, sz14, sz15, sz16, startE, isN, List.length_cons, List.length_nil, List.map_cons, List.map_nil, List.cons_append, List.nil_append, List.getElem?_cons_zero, List.getElem?_cons_succ, List.set_cons_zero, List.set_cons_succ, List.reduceReplicate, Nat.reduceAdd, Nat.reduceSub, Nat.zero_add, Option.map_some, decide_eq_true_eq, Bool.false_eq_true, Bool.not_true, Bool.not_false, if_false, if_true, true_and, and_true, List.set_set]
      exact hQ _ _ hc2
theorem ask_ok {k : Nat} {g : G} {Q : D → G → Prop} {X : Exn → G → Prop} (hb : BagAt g k) (hQ : ∀ (d : D) (c : Cell), BagC c → AskD d → Q d (g.set k c)) : wR (F__law_ask [.ref k] g) Q X := by
  unfold F__law_ask b__law_ask
  rw [wR_body]
  refine ⟨rfl, ?_⟩
  simp only [wR_ok, wR_stuck, wR_exc, wR_bind, wR_var, wR_c, wR_1, wR_2, wR_nilA, wR_consA, wR_ite, wR_tup, wR_lst, wR_cellL, wR_asB, wR_test, wR_andT, wR_orT, wR_notT, onB_bl, wR_andV, wR_orV, wR_notV, wR_if, wR_call, wR_chain, wR_slice, wR_noPart, wR_part, wR_okO, wS_next, wS_fNext, wS_seq, wS_ret, wS_retN, wS_expr, wS_asg, wO_set, wO_some, wO_nils, wO_conss, wO_tup, wS_if, wS_for, wS_store, wS_par, on1_e, on2_e, onI_e, wR_range1, wR_range2, onSeq_some, wR_seqI, wR_zip, wR_enum, wR_lc, wR_yes, wR_sub, wR_add, wR_mul, wR_mod, wR_div, wR_pow, wR_neg, wR_lt, wR_le, wR_gt, wR_ge, wR_abs, wR_intC, wR_eqI, wR_eqS, wR_eqB, wR_isN, wR_lenL, wR_lenT, wR_listL, wR_listT, wR_tupL, wR_tupT, onO_some, wR_ixL, wR_ixT, sl_tup, sl_lst, sl_scr, isi_non, sub_non_int, sub_non_bool, sub_non_str, sub_non_tuple, sub_non_list, sub_non_dict, isi_bl, sub_bl_int, sub_bl_bool, sub_bl_str, sub_bl_tuple, sub_bl_list, sub_bl_dict, isi_int, sub_int_int, sub_int_bool, sub_int_str, sub_int_tuple, sub_int_list, sub_int_dict, isi_str, sub_str_int, sub_str_bool, sub_str_str, sub_str_tuple, sub_str_list, sub_str_dict, isi_tup, sub_tup_int, sub_tup_bool, sub_tup_str, sub_tup_tuple, sub_tup_list, sub_tup_dict, isi_lst, sub_lst_int, sub_lst_bool, sub_lst_str, sub_lst_tuple, sub_lst_list, sub_lst_dict, isi_dct, sub_dct_int, sub_dct_bool, sub_dct_str, sub_dct_tuple, sub_dct_list, sub_dct_dict, List.any_cons, List.any_nil, Bool.or_false, Bool.or_true, Bool.false_or, Bool.true_or, wR_addT, wR_addL, wO_star1, wR_inK, wR_inKI, wR_ixK, wR_ixKI, lookK_hit, lookK_nil, Option.isSome_some, Option.isSome_none, seqF_tup, seqF_lst, seqF_scr, sz0, sz1, sz2, sz3, sz4, sz5, sz6, sz7, sz8, sz9, sz10, sz11, sz12, sz13, sz14, sz15, sz16, startE, isN, List.length_cons, List.length_nil, List.map_cons, List.map_nil, List.cons_append, List.nil_append, List.getElem?_cons_zero, List.getElem?_cons_succ, List.set_cons_zero, List.set_cons_succ, List.reduceReplicate, Nat.reduceAdd, Nat.reduceSub, Nat.zero_add, Option.map_some, decide_eq_true_eq, Bool.false_eq_true, Bool.not_true, Bool.not_false, if_false, if_true, true_and, and_true]
  refine of_ok k _ _ _ _ hb (by decide) (by decide) fun w c hc hw => ?_
  have hb1 := hb.set hc
  obtain ⟨w, rfl⟩ : ∃ s, w = .str s := by
    simp only [List.mem_cons, List.not_mem_nil, or_false] at hw
    rcases hw with h | h | h | h | h | h <;> exact ⟨_, h⟩
  refine key_ok hb1 fun a c2 hc2 => ?_
  have hb2 := hb1.set hc2
  simp (decide := true) only [wR_ok, wR_stuck, wR_exc, wR_bind, wR_var, wR_c, wR_1, wR_2, wR_nilA, wR_consA, wR_ite, wR_tup, wR_lst, wR_cellL, wR_asB, wR_test, wR_andT, wR_orT, wR_notT, onB_bl, wR_andV, wR_orV, wR_notV, wR_if, wR_call, wR_chain, wR_slice, wR_noPart, wR_part, wR_okO, wS_next, wS_fNext, wS_seq, wS_ret, wS_retN, wS_expr, wS_asg, wO_set, wO_some, wO_nils, wO_conss, wO_tup, wS_if, wS_for, wS_store, wS_par, on1_e, on2_e, onI_e, wR_range1, wR_range2, onSeq_some, wR_seqI, wR_zip, wR_enum, wR_lc, wR_yes, wR_sub, wR_add, wR_mul, wR_mod, wR_div, wR_pow, wR_neg, wR_lt, wR_le, wR_gt, wR_ge, wR_abs, wR_intC, wR_eqI, wR_eqS, wR_eqB, wR_isN, wR_lenL, wR_lenT, wR_listL, wR_listT, wR_tupL, wR_tupT, onO_some, wR_ixL, wR_ixT, sl_tup, sl_lst, sl_scr, isi_non, sub_non_int, sub_non_bool, sub_non_str, sub_non_tuple, sub_non_list, sub_non_dict, isi_bl, sub_bl_int, sub_bl_bool, sub_bl_str, sub_bl_tuple, sub_bl_list, sub_bl_dict, isi_int, sub_int_int, sub_int_bool, sub_int_str, sub_int_tuple, sub_int_list, sub_int_dict, isi_str, sub_str_int, sub_str_bool, sub_str_str, sub_str_tuple, sub_str_list, sub_str_dict, isi_tup, sub_tup_int, sub_tup_bool, sub_tup_str, sub_tup_tuple, sub_tup_list, sub_tup_dict, isi_lst, sub_lst_int, sub_lst_bool, sub_lst_str, sub_lst_tuple, sub_lst_list, sub_lst_dict, isi_dct, sub_dct_int, sub_dct_bool, sub_dct_str, sub_dct_tuple, sub_dct_list, sub_dct_dict, List.any_cons, List.any_nil, Bool.or_false, Bool.or_true, Bool.false_or, Bool.true_or, wR_addT, wR_addL, wO_star1, wR_inK, wR_inKI, wR_ixK, wR_ixKI, lookK_hit, lookK_nil, Option.isSome_some, Option.isSome_none, seqF_tup, seqF_lst, seqF_scr, sz0, sz1, sz2, sz3, sz4, sz5, sz6, sz7, sz8, sz9, sz10, sz11, sz12, sz13, sz14, sz15, sz16, startE, isN, List.length_cons, List.length_nil, List.map_cons, List.map_nil, List.cons_append, List.nil_append, List.getElem?_cons_zero, List.getElem?_cons_succ, List.set_cons_zero, List.set_cons_succ, List.reduceReplicate, Nat.reduceAdd, Nat.reduceSub, Nat.zero_add, Option.map_some, decide_eq_true_eq, Bool.false_eq_true, Bool.not_true, Bool.not_false, if_false, if_true, true_and, and_true]
  have ty2 : ∀ (w : Str) (a : Int), AskD (.tup [.str w, .int a]) := fun w a => ⟨_, rfl, by simp, by simp, fun x hx => by
    simp only [List.mem_cons, List.not_mem_nil, or_false] at hx
    rcases hx with rfl | rfl <;> exact ⟨_, rfl⟩⟩
  have ty3 : ∀ (w : Str) (a b : Int), AskD (.tup [.str w, .int a, .int b]) := fun w a b => ⟨_, rfl, by simp, by simp, fun x hx => by
    simp only [List.mem_cons, List.not_mem_nil, or_false] at hx
    rcases hx with rfl | rfl | rfl <;> exact ⟨_, rfl⟩⟩
  split
  · refine pull_ok k 12 _ _ _ hb2 (by decide) (by decide) fun r c3 hc3 _ _ => ?_
    have hb3 := hb2.set hc3
    refine pull_ok k 12 _ _ _ hb3 (by decide) (by decide) fun r2 c4 hc4 _ _ => ?_
    have hb4 := hb3.set hc4
    refine of_ok k _ _ _ _ hb4 (by simp) (by simp) fun b c5 hc5 hbm => ?_
    obtain ⟨b, rfl⟩ : ∃ i, b = .int i := by
      simp only [List.mem_cons, List.not_mem_nil, or_false] at hbm
      rcases hbm with h | h | h | h <;> exact ⟨_, h⟩
    simp only [wR_ok, wR_stuck, wR_exc, wR_bind, wR_var, wR_c, wR_1, wR_2, wR_nilA, wR_consA, wR_ite, wR_tup, wR_lst, wR_cellL, wR_asB, wR_test, wR_andT, wR_orT, wR_notT, onB_bl, wR_andV, wR_orV, wR_notV, wR_if, wR_call, wR_chain, wR_slice, wR_noPart, wR_part, wR_okO, wS_next, wS_fNext, wS_seq, wS_ret, wS_retN, wS_expr, wS_asg, wO_set, wO_some, wO_nils, wO_conss, wO_tup, wS_if, wS_for, wS_store, wS_par, on1_e, on2_e, onI_e, wR_range1, wR_range2, onSeq_some, wR_seqI, wR_zip, wR_enum, wR_lc, wR_yes, wR_sub, wR_add, wR_mul, wR_mod, wR_div, wR_pow, wR_neg, wR_lt, wR_le, wR_gt, wR_ge, wR_abs, wR_intC, wR_eqI, wR_eqS, wR_eqB, wR_isN, wR_lenL, wR_lenT, wR_listL, wR_listT, wR_tupL, wR_tupT, onO_some, wR_ixL, wR_ixT, sl_tup, sl_lst, sl_scr, isi_non, sub_non_int, sub_non_bool, sub_non_str, sub_non_tuple, sub_non_list, sub_non_dict, isi_bl, sub_bl_int, sub_bl_bool, sub_bl_str, sub_bl_tuple, sub_bl_list, sub_bl_dict, isi_int, sub_int_int, sub_int_bool, sub_int_str, sub_int_tuple, sub_int_list, sub_int_dict, isi_str, sub_str_int, sub_str_bool, sub_str_str, sub_str_tuple, sub_str_list, sub_str_dict, isi_tup, sub_tup_int, sub_tup_bool, sub_tup_str, sub_tup_tuple, sub_tup_list, sub_tup_dict, isi_lst, sub_lst_int, sub_lst_bool, sub_lst_str, sub_lst_tuple, sub_lst_list, sub_lst_dict, isi_dct, sub_dct_int, sub_dct_bool, sub_dct_str, sub_dct_tuple, sub_dct_list, sub_dct_dict, List.any_cons, List.any_nil, Bool.or_false, Bool.or_true, Bool.false_or, Bool.true_or, wR_addT, wR_addL, wO_star1, wR_inK, wR_inKI, wR_ixK, wR_ixKI, lookK_hit, lookK_nil, Option.isSome_some, Option.isSome_none, seqF_tup, seqF_lst, seqF_scr, sz0, sz1, sz2, sz3, sz4, sz5, sz6, sz7, sz8, sz9, sz10, sz11, sz12, sz13, sz14, sz15, sz16, startE, isN, List.length_cons, List.length_nil, List.map_cons, List.map_nil, List.cons_append, List.nil_append, List.getElem?_cons_zero, List.getElem?_cons_succ, List.set_cons_zero, List.set_cons_succ, List.reduceReplicate, Nat.reduceAdd, Nat.reduceSub, Nat.zero_add, Option.map_some, decide_eq_true_eq, Bool.false_eq_true, Bool.not_true, Bool.not_false, if_false, if_true, true_and, and_true, List.set_set]
    exact hQ _ _ hc5 (ty3 ..)
  · split
    · refine pull_ok k 90 _ _ _ hb2 (by decide) (by decide) fun r c3 hc3 _ _ => ?_
      simp only [wR_ok, wR_stuck, wR_exc, wR_bind, wR_var, wR_c, wR_1, wR_2, wR_nilA, wR_consA, wR_ite, wR_tup, wR_lst, wR_cellL, wR_asB, wR_test, wR_andT, wR_orT, wR_notT, onB_bl, wR_andV, wR_orV, wR_notV, wR_if, wR_call, wR_chain, wR_slice, wR_noPart, wR_part, wR_okO, wS_next, wS_fNext, wS_seq, wS_ret, wS_retN, wS_expr, wS_asg, wO_set, wO_some, wO_nils, wO_conss, wO_tup, wS_if, wS_for, wS_store, wS_par, on1_e, on2_e, onI_e, wR_range1, wR_range2, onSeq_some, wR_seqI, wR_zip, wR_enum, wR_lc, wR_yes, wR_sub, wR_add, wR_mul, wR_mod, wR_div, wR_pow, wR_neg, wR_lt, wR_le, wR_gt, wR_ge, wR_abs, wR_intC, wR_eqI, wR_eqS, wR_eqB, wR_isN, wR_lenL, wR_lenT, wR_listL, wR_listT, wR_tupL, wR_tupT, onO_some, wR_ixL, wR_ixT, sl_tup, sl_lst, sl_scr, isi_non, sub_non_int, sub_non_bool, sub_non_str, sub_non_tuple, sub_non_list, sub_non_dict, isi_bl, sub_bl_int, sub_bl_bool, sub_bl_str, sub_bl_tuple, sub_bl_list, sub_bl_dict, isi_int, sub_int_int, sub_int_bool, sub_int_str, sub_int_tuple, sub_int_list, sub_int_dict, isi_str, sub_str_int, sub_str_bool, sub_str_str, sub_str_tuple, sub_str_list, sub_str_dict, isi_tup, sub_tup_int, sub_tup_bool, sub_tup_str, sub_tup_tuple, sub_tup_list, sub_tup_dict, isi_lst, sub_lst_int, sub_lst_bool, sub_lst_str, sub_lst_tuple, sub_lst_list, sub_lst_dict, isi_dct, sub_dct_int, sub_dct_bool, sub_dct_str, sub_dct_tuple, sub_dct_list, sub_dct_dict, List.any_cons, List.any_nil, Bool.or_false, Bool.or_true, Bool.false_or, Bool.true_or, wR_addT, wR_addL, wO_star1, wR_inK, wR_inKI, wR_ixK, wR_ixKI, lookK_hit, lookK_nil, Option.isSome_some, Option.isSome_none, seqF_tup, seqF_lst, seqF_scr, sz0, sz1, sz2, sz3, sz4, sz5, sz6, sz7, sz8, sz9, sz10, sz11, sz12, sz13, sz14, sz15, sz16, startE, isN, List.length_cons, List.length_nil, List.map_cons, List.map_nil, List.cons_append, List.nil_append, List.getElem?_cons_zero, List.getElem?_cons_succ, List.set_cons_zero, List.set_cons_succ, List.reduceReplicate, Nat.reduceAdd, Nat.reduceSub, Nat.zero_add, Option.map_some, decide_eq_true_eq, Bool.false_eq_true, Bool.not_true, Bool.not_false, if_false, if_true, true_and, and_true, List.set_set]
      exact hQ _ _ hc3 (ty3 ..)
    · rw [List.set_set]
      exact hQ _ _ hc2 (ty2 ..)
theorem law_ok (ns : List Int) : ∃ g, F_law [.scr ns] [] = .ok (.bl true) g := by
  suffices h : wR (F_law [.scr ns] []) (fun d _ => d = .bl true) (fun _ _ => False) by
    cases e : F_law [.scr ns] [] with
    | ok d g => rw [e] at h; cases (show d = .bl true from h); exact ⟨g, rfl⟩
    | exc x g => rw [e] at h; exact h.elim
    | stuck => rw [e] at h; exact h.elim
  unfold F_law b_law
  rw [wR_body]
  refine ⟨rfl, ?_⟩
  have hbag : ∀ g, wR (F__law_bag [.scr ns] g) (fun d g' => d = .ref g.length ∧ ∃ c, BagC c ∧ g' = g ++ [c]) (fun _ _ => False) := fun g => by
    unfold F__law_bag b__law_bag
    rw [wR_body]
    refine ⟨rfl, ?_⟩
    simp only [wR_ok, wR_stuck, wR_exc, wR_bind, wR_var, wR_c, wR_1, wR_2, wR_nilA, wR_consA, wR_ite, wR_tup, wR_lst, wR_cellL, wR_asB, wR_test, wR_andT, wR_orT, wR_notT, onB_bl, wR_andV, wR_orV, wR_notV, wR_if, wR_call, wR_chain, wR_slice, wR_noPart, wR_part, wR_okO, wS_next, wS_fNext, wS_seq, wS_ret, wS_retN, wS_expr, wS_asg, wO_set, wO_some, wO_nils, wO_conss, wO_tup, wS_if, wS_for, wS_store, wS_par, on1_e, on2_e, onI_e, wR_range1, wR_range2, onSeq_some, wR_seqI, wR_zip, wR_enum, wR_lc, wR_yes, wR_sub, wR_add, wR_mul, wR_mod, wR_div, wR_pow, wR_neg, wR_lt, wR_le, wR_gt, wR_ge, wR_abs, wR_intC, wR_eqI, wR_eqS, wR_eqB, wR_isN, wR_lenL, wR_lenT, wR_listL, wR_listT, wR_tupL, wR_tupT, onO_some, wR_ixL, wR_ixT, sl_tup, sl_lst, sl_scr, isi_non, sub_non_int, sub_non_bool, sub_non_str, sub_non_tuple, sub_non_list, sub_non_dict, isi_bl, sub_bl_int, sub_bl_bool, sub_bl_str, sub_bl_tuple, sub_bl_list, sub_bl_dict, isi_int, sub_int_int, sub_int_bool, sub_int_str, sub_int_tuple, sub_int_list, sub_int_dict, isi_str, sub_str_int, sub_str_bool, sub_str_str, sub_str_tuple, sub_str_list, sub_str_dict, isi_tup, sub_tup_int, sub_tup_bool, sub_tup_str, sub_tup_tuple, sub_tup_list, sub_tup_dict, isi_lst, sub_lst_int, sub_lst_bool, sub_lst_str, sub_lst_tuple, sub_lst_list, sub_lst_dict, isi_dct, sub_dct_int, sub_dct_bool, sub_dct_str, sub_dct_tuple, sub_dct_list, sub_dct_dict, List.any_cons, List.any_nil, Bool.or_false, Bool.or_true, Bool.false_or, Bool.true_or, wR_addT, wR_addL, wO_star1, wR_inK, wR_inKI, wR_ixK, wR_ixKI, lookK_hit, lookK_nil, Option.isSome_some, Option.isSome_none, seqF_tup, seqF_lst, seqF_scr, sz0, sz1, sz2, sz3, sz4, sz5, sz6, sz7, sz8, sz9, sz10, sz11, sz12, sz13, sz14, sz15, sz16, startE, isN, List.length_cons, List.length_nil, List.map_cons, List.map_nil, List.cons_append, List.nil_append, List.getElem?_cons_zero, List.getElem?_cons_succ, List.set_cons_zero, List.set_cons_succ, List.reduceReplicate, Nat.reduceAdd, Nat.reduceSub, Nat.zero_add, Option.map_some, decide_eq_true_eq, Bool.false_eq_true, Bool.not_true, Bool.not_false, if_false, if_true, true_and, and_true]
    exact ⟨_, bag_new ns, rfl⟩
  simp only [wR_ok, wR_stuck, wR_exc, wR_bind, wR_var, wR_c, wR_1, wR_2, wR_nilA, wR_consA, wR_ite, wR_tup, wR_lst, wR_cellL, wR_asB, wR_test, wR_andT, wR_orT, wR_notT, onB_bl, wR_andV, wR_orV, wR_notV, wR_if, wR_call, wR_chain, wR_slice, wR_noPart, wR_part, wR_okO, wS_next, wS_fNext, wS_seq, wS_ret, wS_retN, wS_expr, wS_asg, wO_set, wO_some, wO_nils, wO_conss, wO_tup, wS_if, wS_for, wS_store, wS_par, on1_e, on2_e, onI_e, wR_range1, wR_range2, onSeq_some, wR_seqI, wR_zip, wR_enum, wR_lc, wR_yes, wR_sub, wR_add, wR_mul, wR_mod, wR_div, wR_pow, wR_neg, wR_lt, wR_le, wR_gt, wR_ge, wR_abs, wR_intC, wR_eqI, wR_eqS, wR_eqB, wR_isN, wR_lenL, wR_lenT, wR_listL, wR_listT, wR_tupL, wR_tupT, onO_some, wR_ixL, wR_ixT, sl_tup, sl_lst, sl_scr, isi_non, sub_non_int, sub_non_bool, sub_non_str, sub_non_tuple, sub_non_list, sub_non_dict, isi_bl, sub_bl_int, sub_bl_bool, sub_bl_str, sub_bl_tuple, sub_bl_list, sub_bl_dict, isi_int, sub_int_int, sub_int_bool, sub_int_str, sub_int_tuple, sub_int_list, sub_int_dict, isi_str, sub_str_int, sub_str_bool, sub_str_str, sub_str_tuple, sub_str_list, sub_str_dict, isi_tup, sub_tup_int, sub_tup_bool, sub_tup_str, sub_tup_tuple, sub_tup_list, sub_tup_dict, isi_lst, sub_lst_int, sub_lst_bool, sub_lst_str, sub_lst_tuple, sub_lst_list, sub_lst_dict, isi_dct, sub_dct_int, sub_dct_bool, sub_dct_str, sub_dct_tuple, sub_dct_list, sub_dct_dict, List.any_cons, List.any_nil, Bool.or_false, Bool.or_true, Bool.false_or, Bool.true_or, wR_addT, wR_addL, wO_star1, wR_inK, wR_inKI, wR_ixK, wR_ixKI, lookK_hit, lookK_nil, Option.isSome_some, Option.isSome_none, seqF_tup, seqF_lst, seqF_scr, sz0, sz1, sz2, sz3, sz4, sz5, sz6, sz7, sz8, sz9, sz10, sz11, sz12, sz13, sz14, sz15, sz16, startE, isN, List.length_cons, List.length_nil, List.map_cons, List.map_nil, List.cons_append, List.nil_append, List.getElem?_cons_zero, List.getElem?_cons_succ, List.set_cons_zero, List.set_cons_succ, List.reduceReplicate, Nat.reduceAdd, Nat.reduceSub, Nat.zero_add, Option.map_some, decide_eq_true_eq, Bool.false_eq_true, Bool.not_true, Bool.not_false, if_false, if_true, true_and, and_true]
  refine (hbag []).mono2 ?_ (fun _ _ h => h)
  rintro d g ⟨rfl, c, hc, rfl⟩
  refine ⟨by decide, ?_⟩
  refine wS_loop (fun _ env g => BagAt g 0 ∧ ∃ s0 s2 s3 s4 s5 s6 s7 s8, env = [s0, .val (.ref 0), s2, s3, s4, s5, s6, s7, s8]) _ _ _ ⟨BagAt.push hc, _, _, _, _, _, _, _, _, rfl⟩ ?_ ?_
  · rintro d ds env g ⟨hb, s0, s2, s3, s4, s5, s6, s7, s8, rfl⟩
    simp only [wR_ok, wR_stuck, wR_exc, wR_bind, wR_var, wR_c, wR_1, wR_2, wR_nilA, wR_consA, wR_ite, wR_tup, wR_lst, wR_cellL, wR_asB, wR_test, wR_andT, wR_orT, wR_notT, onB_bl, wR_andV, wR_orV, wR_notV, wR_if, wR_call, wR_chain, wR_slice, wR_noPart, wR_part, wR_okO, wS_next, wS_fNext, wS_seq, wS_ret, wS_retN, wS_expr, wS_asg, wO_set, wO_some, wO_nils, wO_conss, wO_tup, wS_if, wS_for, wS_store, wS_par, on1_e, on2_e, onI_e, wR_range1, wR_range2, onSeq_some, wR_seqI, wR_zip, wR_enum, wR_lc, wR_yes, wR_sub, wR_add, wR_mul, wR_mod, wR_div, wR_pow, wR_neg, wR_lt, wR_le, wR_gt, wR_ge, wR_abs, wR_intC, wR_eqI, wR_eqS, wR_eqB, wR_isN, wR_lenL, wR_lenT, wR_listL, wR_listT, wR_tupL, wR_tupT, onO_some, wR_ixL, wR_ixT, sl_tup, sl_lst, sl_scr, isi_non, sub_non_int, sub_non_bool, sub_non_str, sub_non_tuple, sub_non_list, sub_non_dict, isi_bl, sub_bl_int, sub_bl_bool, sub_bl_str, sub_bl_tuple, sub_bl_list, sub_bl_dict, isi_int, sub_int_int, sub_int_bool, sub_int_str, sub_int_tuple, sub_int_list, sub_int_dict, isi_str, sub_str_int, sub_str_bool, sub_str_str, sub_str_tuple, sub_str_list, sub_str_dict, isi_tup, sub_tup_int, sub_tup_bool, sub_tup_str, sub_tup_tuple, sub_tup_list, sub_tup_dict, isi_lst, sub_lst_int, sub_lst_bool, sub_lst_str, sub_lst_tuple, sub_lst_list, sub_lst_dict, isi_dct, sub_dct_int, sub_dct_bool, sub_dct_str, sub_dct_tuple, sub_dct_list, sub_dct_dict, List.any_cons, List.any_nil, Bool.or_false, Bool.or_true, Bool.false_or, Bool.true_or, wR_addT, wR_addL, wO_star1, wR_inK, wR_inKI, wR_ixK, wR_ixKI, lookK_hit, lookK_nil, Option.isSome_some, Option.isSome_none, seqF_tup, seqF_lst, seqF_scr, sz0, sz1, sz2, sz3, sz4, sz5, sz6, sz7, sz8, sz9, sz10, sz11, sz12, sz13, sz14, sz15, sz16, startE, isN, List.length_cons, List.length_nil, List.map_cons, List.map_nil, List.cons_append, List.nil_append, List.getElem?_cons_zero, List.getElem?_cons_succ, List.set_cons_zero, List.set_cons_succ, List.reduceReplicate, Nat.reduceAdd, Nat.reduceSub, Nat.zero_add, Option.map_some, decide_eq_true_eq, Bool.false_eq_true, Bool.not_true, Bool.not_false, if_false, if_true, true_and, and_true]
    refine ask_ok hb fun ask c1 hc1 ha => ?_
    have hb1 := hb.set hc1
    obtain ⟨xs, rfl, hx0, hx3, hxt⟩ := ha
    simp only [wR_ok, wR_stuck, wR_exc, wR_bind, wR_var, wR_c, wR_1, wR_2, wR_nilA, wR_consA, wR_ite, wR_tup, wR_lst, wR_cellL, wR_asB, wR_test, wR_andT, wR_orT, wR_notT, onB_bl, wR_andV, wR_orV, wR_notV, wR_if, wR_call, wR_chain, wR_slice, wR_noPart, wR_part, wR_okO, wS_next, wS_fNext, wS_seq, wS_ret, wS_retN, wS_expr, wS_asg, wO_set, wO_some, wO_nils, wO_conss, wO_tup, wS_if, wS_for, wS_store, wS_par, on1_e, on2_e, onI_e, wR_range1, wR_range2, onSeq_some, wR_seqI, wR_zip, wR_enum, wR_lc, wR_yes, wR_sub, wR_add, wR_mul, wR_mod, wR_div, wR_pow, wR_neg, wR_lt, wR_le, wR_gt, wR_ge, wR_abs, wR_intC, wR_eqI, wR_eqS, wR_eqB, wR_isN, wR_lenL, wR_lenT, wR_listL, wR_listT, wR_tupL, wR_tupT, onO_some, wR_ixL, wR_ixT, sl_tup, sl_lst, sl_scr, isi_non, sub_non_int, sub_non_bool, sub_non_str, sub_non_tuple, sub_non_list, sub_non_dict, isi_bl, sub_bl_int, sub_bl_bool, sub_bl_str, sub_bl_tuple, sub_bl_list, sub_bl_dict, isi_int, sub_int_int, sub_int_bool, sub_int_str, sub_int_tuple, sub_int_list, sub_int_dict, isi_str, sub_str_int, sub_str_bool, sub_str_str, sub_str_tuple, sub_str_list, sub_str_dict, isi_tup, sub_tup_int, sub_tup_bool, sub_tup_str, sub_tup_tuple, sub_tup_list, sub_tup_dict, isi_lst, sub_lst_int, sub_lst_bool, sub_lst_str, sub_lst_tuple, sub_lst_list, sub_lst_dict, isi_dct, sub_dct_int, sub_dct_bool, sub_dct_str, sub_dct_tuple, sub_dct_list, sub_dct_dict, List.any_cons, List.any_nil, Bool.or_false, Bool.or_true, Bool.false_or, Bool.true_or, wR_addT, wR_addL, wO_star1, wR_inK, wR_inKI, wR_ixK, wR_ixKI, lookK_hit, lookK_nil, Option.isSome_some, Option.isSome_none, seqF_tup, seqF_lst, seqF_scr, sz0, sz1, sz2, sz3, sz4, sz5, sz6, sz7, sz8, sz9, sz10, sz11, sz12, sz13, sz14, sz15, sz16, startE, isN, List.length_cons, List.length_nil, List.map_cons, List.map_nil, List.cons_append, List.nil_append, List.getElem?_cons_zero, List.getElem?_cons_succ, List.set_cons_zero, List.set_cons_succ, List.reduceReplicate, Nat.reduceAdd, Nat.reduceSub, Nat.zero_add, Option.map_some, decide_eq_true_eq, Bool.false_eq_true, Bool.not_true, Bool.not_false, if_false, if_true, true_and, and_true]
    refine pull_ok 0 _ _ _ _ hb1 (by omega) (by omega) fun at_ c2 hc2 ha0 ha1 => ?_
    have hb2 := hb1.set hc2
    simp only [wR_ok, wR_stuck, wR_exc, wR_bind, wR_var, wR_c, wR_1, wR_2, wR_nilA, wR_consA, wR_ite, wR_tup, wR_lst, wR_cellL, wR_asB, wR_test, wR_andT, wR_orT, wR_notT, onB_bl, wR_andV, wR_orV, wR_notV, wR_if, wR_call, wR_chain, wR_slice, wR_noPart, wR_part, wR_okO, wS_next, wS_fNext, wS_seq, wS_ret, wS_retN, wS_expr, wS_asg, wO_set, wO_some, wO_nils, wO_conss, wO_tup, wS_if, wS_for, wS_store, wS_par, on1_e, on2_e, onI_e, wR_range1, wR_range2, onSeq_some, wR_seqI, wR_zip, wR_enum, wR_lc, wR_yes, wR_sub, wR_add, wR_mul, wR_mod, wR_div, wR_pow, wR_neg, wR_lt, wR_le, wR_gt, wR_ge, wR_abs, wR_intC, wR_eqI, wR_eqS, wR_eqB, wR_isN, wR_lenL, wR_lenT, wR_listL, wR_listT, wR_tupL, wR_tupT, onO_some, wR_ixL, wR_ixT, sl_tup, sl_lst, sl_scr, isi_non, sub_non_int, sub_non_bool, sub_non_str, sub_non_tuple, sub_non_list, sub_non_dict, isi_bl, sub_bl_int, sub_bl_bool, sub_bl_str, sub_bl_tuple, sub_bl_list, sub_bl_dict, isi_int, sub_int_int, sub_int_bool, sub_int_str, sub_int_tuple, sub_int_list, sub_int_dict, isi_str, sub_str_int, sub_str_bool, sub_str_str, sub_str_tuple, sub_str_list, sub_str_dict, isi_tup, sub_tup_int, sub_tup_bool, sub_tup_str, sub_tup_tuple, sub_tup_list, sub_tup_dict, isi_lst, sub_lst_int, sub_lst_bool, sub_lst_str, sub_lst_tuple, sub_lst_list, sub_lst_dict, isi_dct, sub_dct_int, sub_dct_bool, sub_dct_str, sub_dct_tuple, sub_dct_list, sub_dct_dict, List.any_cons, List.any_nil, Bool.or_false, Bool.or_true, Bool.false_or, Bool.true_or, wR_addT, wR_addL, wO_star1, wR_inK, wR_inKI, wR_ixK, wR_ixKI, lookK_hit, lookK_nil, Option.isSome_some, Option.isSome_none, seqF_tup, seqF_lst, seqF_scr, sz0, sz1, sz2, sz3, sz4, sz5, sz6, sz7, sz8, sz9, sz10, sz11, sz12, sz13, sz14, sz15, sz16, startE, isN, List.length_cons, List.length_nil, List.map_cons, List.map_nil, List.cons_append, List.nil_append, List.getElem?_cons_zero, List.getElem?_cons_succ, List.set_cons_zero, List.set_cons_succ, List.reduceReplicate, Nat.reduceAdd, Nat.reduceSub, Nat.zero_add, Option.map_some, decide_eq_true_eq, Bool.false_eq_true, Bool.not_true, Bool.not_false, if_false, if_true, true_and, and_true]
    refine ⟨by decide, by decide, by decide, of_ok 0 _ _ _ _ hb2 (by decide) (by decide) fun odd c3 hc3 hm => ?_⟩
    have hb3 := hb2.set hc3
    have hto : TyD odd := by
      simp only [List.mem_cons, List.not_mem_nil, or_false] at hm
      rcases hm with rfl | rfl | rfl | rfl | rfl | rfl | rfl | rfl | rfl | rfl | rfl | rfl <;> refine ⟨⟨_, rfl⟩, fun xs e => ?_⟩ <;> cases e
      refine ⟨by decide, fun x hx => ?_⟩
      simp only [List.mem_cons, List.not_mem_nil, or_false] at hx
      subst hx
      exact ⟨_, rfl⟩
    have q1 := @length_cutD xs none (some at_)
    have q2 := @length_cutD xs (some (at_ + 1)) none
    have hz : (1024 : Nat) ≤ sizeLine := by decide
    refine ⟨by omega, by simp only [List.length_append, wR_ok, wR_stuck, wR_exc, wR_bind, wR_var, wR_c, wR_1, wR_2, wR_nilA, wR_consA, wR_ite, wR_tup, wR_lst, wR_cellL, wR_asB, wR_test, wR_andT, wR_orT, wR_notT, onB_bl, wR_andV, wR_orV, wR_notV, wR_if, wR_call, wR_chain, wR_slice, wR_noPart, wR_part, wR_okO, wS_next, wS_fNext, wS_seq, wS_ret, wS_retN, wS_expr, wS_asg, wO_set, wO_some, wO_nils, wO_conss, wO_tup, wS_if, wS_for, wS_store, wS_par, on1_e, on2_e, onI_e, wR_range1, wR_range2, onSeq_some, wR_seqI, wR_zip, wR_enum, wR_lc, wR_yes, wR_sub, wR_add, wR_mul, wR_mod, wR_div, wR_pow, wR_neg, wR_lt, wR_le, wR_gt, wR_ge, wR_abs, wR_intC, wR_eqI, wR_eqS, wR_eqB, wR_isN, wR_lenL, wR_lenT, wR_listL, wR_listT, wR_tupL, wR_tupT, onO_some, wR_ixL, wR_ixT, sl_tup, sl_lst, sl_scr, isi_non, sub_non_int, sub_non_bool, sub_non_str, sub_non_tuple, sub_non_list, sub_non_dict, isi_bl, sub_bl_int, sub_bl_bool, sub_bl_str, sub_bl_tuple, sub_bl_list, sub_bl_dict, isi_int, sub_int_int, sub_int_bool, sub_int_str, sub_int_tuple, sub_int_list, sub_int_dict, isi_str, sub_str_int, sub_str_bool, sub_str_str, sub_str_tuple, sub_str_list, sub_str_dict, isi_tup, sub_tup_int, sub_tup_bool, sub_tup_str, sub_tup_tuple, sub_tup_list, sub_tup_dict, isi_lst, sub_lst_int, sub_lst_bool, sub_lst_str, sub_lst_tuple, sub_lst_list, sub_lst_dict, isi_dct, sub_dct_int, sub_dct_bool, sub_dct_str, sub_dct_tuple, sub_dct_list, sub_dct_dict, List.any_cons, List.any_nil, Bool.or_false, Bool.or_true, Bool.false_or, Bool.true_or, wR_addT, wR_addL, wO_star1, wR_inK, wR_inKI, wR_ixK, wR_ixKI, lookK_hit, lookK_nil, Option.isSome_some, Option.isSome_none, seqF_tup, seqF_lst, seqF_scr, sz0, sz1, sz2, sz3, sz4, sz5, sz6, sz7, sz8, sz9, sz10, sz11, sz12, sz13, sz14, sz15, sz16, startE, isN, List.length_cons, List.length_nil, List.map_cons, List.map_nil, List.cons_append, List.nil_append, List.getElem?_cons_zero, List.getElem?_cons_succ, List.set_cons_zero, List.set_cons_succ, List.reduceReplicate, Nat.reduceAdd, Nat.reduceSub, Nat.zero_add, Option.map_some, decide_eq_true_eq, Bool.false_eq_true, Bool.not_true, Bool.not_false, if_false, if_true, true_and, and_true]; omega, by omega, by omega, of_ok 0 _ _ _ _ hb3 (by simp) (by simp) fun val c4 hc4 hm2 => ?_⟩
    have hb4 := hb3.set hc4
    have tyT : ∀ ys : List D, ys.length ≤ 1024 → (∀ x ∈ ys, (∃ t, tyF x = some t)) → TyD (.tup ys) := fun ys h1 h2 => ⟨⟨_, rfl⟩, fun zs e => by cases e; exact ⟨Nat.le_trans h1 hz, h2⟩⟩
    have htv : TyD val := by
      simp only [List.mem_cons, List.not_mem_nil, or_false] at hm2
      rcases hm2 with rfl | rfl | rfl | rfl | rfl | rfl | rfl
      · exact tyT _ (by omega) hxt
      · refine tyT _ (by simp only [List.length_append, wR_ok, wR_stuck, wR_exc, wR_bind, wR_var, wR_c, wR_1, wR_2, wR_nilA, wR_consA, wR_ite, wR_tup, wR_lst, wR_cellL, wR_asB, wR_test, wR_andT, wR_orT, wR_notT, onB_bl, wR_andV, wR_orV, wR_notV, wR_if, wR_call, wR_chain, wR_slice, wR_noPart, wR_part, wR_okO, wS_next, wS_fNext, wS_seq, wS_ret, wS_retN, wS_expr, wS_asg, wO_set, wO_some, wO_nils, wO_conss, wO_tup, wS_if, wS_for, wS_store, wS_par, on1_e, on2_e, onI_e, wR_range1, wR_range2, onSeq_some, wR_seqI, wR_zip, wR_enum, wR_lc, wR_yes, wR_sub, wR_add, wR_mul, wR_mod, wR_div, wR_pow, wR_neg, wR_lt, wR_le, wR_gt, wR_ge, wR_abs, wR_intC, wR_eqI, wR_eqS, wR_eqB, wR_isN, wR_lenL, wR_lenT, wR_listL, wR_listT, wR_tupL, wR_tupT, onO_some, wR_ixL, wR_ixT, sl_tup, sl_lst, sl_scr, isi_non, sub_non_int, sub_non_bool, sub_non_str, sub_non_tuple, sub_non_list, sub_non_dict, isi_bl, sub_bl_int, sub_bl_bool, sub_bl_str, sub_bl_tuple, sub_bl_list, sub_bl_dict, isi_int, sub_int_int, sub_int_bool, sub_int_str, sub_int_tuple, sub_int_list, sub_int_dict, isi_str, sub_str_int, sub_str_bool, sub_str_str, sub_str_tuple, sub_str_list, sub_str_dict, isi_tup, sub_tup_int, sub_tup_bool, sub_tup_str, sub_tup_tuple, sub_tup_list, sub_tup_dict, isi_lst, sub_lst_int, sub_lst_bool, sub_lst_str, sub_lst_tuple, sub_lst_list, sub_lst_dict, isi_dct, sub_dct_int, sub_dct_bool, sub_dct_str, sub_dct_tuple, sub_dct_list, sub_dct_dict, List.any_cons, List.any_nil, Bool.or_false, Bool.or_true, Bool.false_or, Bool.true_or, wR_addT, wR_addL, wO_star1, wR_inK, wR_inKI, wR_ixK, wR_ixKI, lookK_hit, lookK_nil, Option.isSome_some, Option.isSome_none, seqF_tup, seqF_lst, seqF_scr, sz0, sz1, sz2, sz3, sz4, sz5, sz6, sz7, sz8, sz9, sz10, sz11, sz12, sz13, sz14, sz15, sz16, startE, isN, List.length_cons, List.length_nil, List.map_cons, List.map_nil, List.cons_append, List.nil_append, List.getElem?_cons_zero, List.getElem?_cons_succ, List.set_cons_zero, List.set_cons_succ, List.reduceReplicate, Nat.reduceAdd, Nat.reduceSub, Nat.zero_add, Option.map_some, decide_eq_true_eq, Bool.false_eq_true, Bool.not_true, Bool.not_false, if_false, if_true, true_and, and_true]; omega) fun x hx => ?_
        simp only [List.mem_append, List.mem_cons, List.not_mem_nil, or_false] at hx
        rcases hx with (hx | rfl) | hx
        · exact hxt _ (mem_cutD hx)
        · exact hto.1
        · exact hxt _ (mem_cutD hx)
      · refine tyT _ (by simp only [List.length_append, wR_ok, wR_stuck, wR_exc, wR_bind, wR_var, wR_c, wR_1, wR_2, wR_nilA, wR_consA, wR_ite, wR_tup, wR_lst, wR_cellL, wR_asB, wR_test, wR_andT, wR_orT, wR_notT, onB_bl, wR_andV, wR_orV, wR_notV, wR_if, wR_call, wR_chain, wR_slice, wR_noPart, wR_part, wR_okO, wS_next, wS_fNext, wS_seq, wS_ret, wS_retN, wS_expr, wS_asg, wO_set, wO_some, wO_nils, wO_conss, wO_tup, wS_if, wS_for, wS_store, wS_par, on1_e, on2_e, onI_e, wR_range1, wR_range2, onSeq_some, wR_seqI, wR_zip, wR_enum, wR_lc, wR_yes, wR_sub, wR_add, wR_mul, wR_mod, wR_div, wR_pow, wR_neg, wR_lt, wR_le, wR_gt, wR_ge, wR_abs, wR_intC, wR_eqI, wR_eqS, wR_eqB, wR_isN, wR_lenL, wR_lenT, wR_listL, wR_listT, wR_tupL, wR_tupT, onO_some, wR_ixL, wR_ixT, sl_tup, sl_lst, sl_scr, isi_non, sub_non_int, sub_non_bool, sub_non_str, sub_non_tuple, sub_non_list, sub_non_dict, isi_bl, sub_bl_int, sub_bl_bool, sub_bl_str, sub_bl_tuple, sub_bl_list, sub_bl_dict, isi_int, sub_int_int, sub_int_bool, sub_int_str, sub_int_tuple, sub_int_list, sub_int_dict, isi_str, sub_str_int, sub_str_bool, sub_str_str, sub_str_tuple, sub_str_list, sub_str_dict, isi_tup, sub_tup_int, sub_tup_bool, sub_tup_str, sub_tup_tuple, sub_tup_list, sub_tup_dict, isi_lst, sub_lst_int, sub_lst_bool, sub_lst_str, sub_lst_tuple, sub_lst_list, sub_lst_dict, isi_dct, sub_dct_int, sub_dct_bool, sub_dct_str, sub_dct_tuple, sub_dct_list, sub_dct_dict, List.any_cons, List.any_nil, Bool.or_false, Bool.or_true, Bool.false_or, Bool.true_or, wR_addT, wR_addL, wO_star1, wR_inK, wR_inKI, wR_ixK, wR_ixKI, lookK_hit, lookK_nil, Option.isSome_some, Option.isSome_none, seqF_tup, seqF_lst, seqF_scr, sz0, sz1, sz2, sz3, sz4, sz5, sz6, sz7, sz8, sz9, sz10, sz11, sz12, sz13, sz14, sz15, sz16, startE, isN, List.length_cons, List.length_nil, List.map_cons, List.map_nil, List.cons_append, List.nil_append, List.getElem?_cons_zero, List.getElem?_cons_succ, List.set_cons_zero, List.set_cons_succ, List.reduceReplicate, Nat.reduceAdd, Nat.reduceSub, Nat.zero_add, Option.map_some, decide_eq_true_eq, Bool.false_eq_true, Bool.not_true, Bool.not_false, if_false, if_true, true_and, and_true]; omega) fun x hx => ?_
        simp only [List.mem_append, List.mem_cons, List.not_mem_nil, or_false] at hx
        rcases hx with hx | rfl
        · exact hxt _ hx
        · exact hto.1
      · refine tyT _ (by simp only [List.length_append]; omega) fun x hx => ?_
        simp only [List.mem_append] at hx
        rcases hx with hx | hx
        · exact hxt _ (mem_cutD hx)
        · exact hxt _ (mem_cutD hx)
      · exact ⟨⟨_, rfl⟩, fun ys e => by cases e⟩
      · exact hto
      · exact tyT _ (by simp) fun x hx => by cases hx
    obtain ⟨⟨t1, ht1⟩, hn1⟩ := htv
    obtain ⟨⟨t2, ht2⟩, hn2⟩ := hto
    have sm : ∀ (a b : Bool) (g : G), F__law_same [.lst [.bl a, .bl b], .lst [.bl a, .bl b]] g = .ok (.bl true) g := fun a b g => same_refl 12 _ _ ⟨show (2 : Nat) ≤ sizeLine by decide, fun x hx => by
      simp only [List.mem_cons, List.not_mem_nil, or_false] at hx
      rcases hx with rfl | rfl <;> trivial⟩
    simp only [wR_ok, wR_stuck, wR_exc, wR_bind, wR_var, wR_c, wR_1, wR_2, wR_nilA, wR_consA, wR_ite, wR_tup, wR_lst, wR_cellL, wR_asB, wR_test, wR_andT, wR_orT, wR_notT, onB_bl, wR_andV, wR_orV, wR_notV, wR_if, wR_call, wR_chain, wR_slice, wR_noPart, wR_part, wR_okO, wS_next, wS_fNext, wS_seq, wS_ret, wS_retN, wS_expr, wS_asg, wO_set, wO_some, wO_nils, wO_conss, wO_tup, wS_if, wS_for, wS_store, wS_par, on1_e, on2_e, onI_e, wR_range1, wR_range2, onSeq_some, wR_seqI, wR_zip, wR_enum, wR_lc, wR_yes, wR_sub, wR_add, wR_mul, wR_mod, wR_div, wR_pow, wR_neg, wR_lt, wR_le, wR_gt, wR_ge, wR_abs, wR_intC, wR_eqI, wR_eqS, wR_eqB, wR_isN, wR_lenL, wR_lenT, wR_listL, wR_listT, wR_tupL, wR_tupT, onO_some, wR_ixL, wR_ixT, sl_tup, sl_lst, sl_scr, isi_non, sub_non_int, sub_non_bool, sub_non_str, sub_non_tuple, sub_non_list, sub_non_dict, isi_bl, sub_bl_int, sub_bl_bool, sub_bl_str, sub_bl_tuple, sub_bl_list, sub_bl_dict, isi_int, sub_int_int, sub_int_bool, sub_int_str, sub_int_tuple, sub_int_list, sub_int_dict, isi_str, sub_str_int, sub_str_bool, sub_str_str, sub_str_tuple, sub_str_list, sub_str_dict, isi_tup, sub_tup_int, sub_tup_bool, sub_tup_str, sub_tup_tuple, sub_tup_list, sub_tup_dict, isi_lst, sub_lst_int, sub_lst_bool, sub_lst_str, sub_lst_tuple, sub_lst_list, sub_lst_dict, isi_dct, sub_dct_int, sub_dct_bool, sub_dct_str, sub_dct_tuple, sub_dct_list, sub_dct_dict, List.any_cons, List.any_nil, Bool.or_false, Bool.or_true, Bool.false_or, Bool.true_or, wR_addT, wR_addL, wO_star1, wR_inK, wR_inKI, wR_ixK, wR_ixKI, lookK_hit, lookK_nil, Option.isSome_some, Option.isSome_none, seqF_tup, seqF_lst, seqF_scr, sz0, sz1, sz2, sz3, sz4, sz5, sz6, sz7, sz8, sz9, sz10, sz11, sz12, sz13, sz14, sz15, sz16, startE, isN, List.length_cons, List.length_nil, List.map_cons, List.map_nil, List.cons_append, List.nil_append, List.getElem?_cons_zero, List.getElem?_cons_succ, List.set_cons_zero, List.set_cons_succ, List.reduceReplicate, Nat.reduceAdd, Nat.reduceSub, Nat.zero_add, Option.map_some, decide_eq_true_eq, Bool.false_eq_true, Bool.not_true, Bool.not_false, if_false, if_true, true_and, and_true, eq_wR (isask_eq ht1 hn1 _), eq_wR (laskp_eq ht1 hn1 _), eq_wR (key_eq ht2 _), eq_wR (lkey_eq ht2 _), eq_wR (sm _ _ _)]
    exact ⟨hb4, _, _, _, _, _, _, _, _, rfl⟩
  · rintro env g ⟨hb, s0, s2, s3, s4, s5, s6, s7, s8, rfl⟩
    have ha : ∀ xs : List D, xs.length ≤ sizeLine → (∀ x ∈ xs, ∃ t, tyF x = some t) → ∀ g, F_is_ask [.tup xs] g = .ok (.bl (askP (.tup xs))) g := fun xs h1 h2 g => isask_eq (t := "tuple") rfl (fun ys e => by cases e; exact ⟨h1, h2⟩) g
    have t3 : ∀ (w : Str) (a b : Int) (x : D), x ∈ [D.str w, D.int a, D.int b] → ∃ t, tyF x = some t := fun w a b x hx => by
      simp only [List.mem_cons, List.not_mem_nil, or_false] at hx
      rcases hx with rfl | rfl | rfl <;> exact ⟨_, rfl⟩
    have t2 : ∀ (w : Str) (a : Int) (x : D), x ∈ [D.str w, D.int a] → ∃ t, tyF x = some t := fun w a x hx => by
      simp only [List.mem_cons, List.not_mem_nil, or_false] at hx
      rcases hx with rfl | rfl <;> exact ⟨_, rfl⟩
    have k1 : askP (.tup [.str "walk", .int 3, .int 3]) = true := by decide
    have k2 : askP (.tup [.str "walk", .int 3, .int 2]) = false := by decide
    have k3 : askP (.tup [.str "get", .int (-5)]) = true := by decide
    have k4 : keyP (.int 0) = true := by decide
    have k5 : keyP (.str "0") = false := rfl
    simp only [wR_ok, wR_stuck, wR_exc, wR_bind, wR_var, wR_c, wR_1, wR_2, wR_nilA, wR_consA, wR_ite, wR_tup, wR_lst, wR_cellL, wR_asB, wR_test, wR_andT, wR_orT, wR_notT, onB_bl, wR_andV, wR_orV, wR_notV, wR_if, wR_call, wR_chain, wR_slice, wR_noPart, wR_part, wR_okO, wS_next, wS_fNext, wS_seq, wS_ret, wS_retN, wS_expr, wS_asg, wO_set, wO_some, wO_nils, wO_conss, wO_tup, wS_if, wS_for, wS_store, wS_par, on1_e, on2_e, onI_e, wR_range1, wR_range2, onSeq_some, wR_seqI, wR_zip, wR_enum, wR_lc, wR_yes, wR_sub, wR_add, wR_mul, wR_mod, wR_div, wR_pow, wR_neg, wR_lt, wR_le, wR_gt, wR_ge, wR_abs, wR_intC, wR_eqI, wR_eqS, wR_eqB, wR_isN, wR_lenL, wR_lenT, wR_listL, wR_listT, wR_tupL, wR_tupT, onO_some, wR_ixL, wR_ixT, sl_tup, sl_lst, sl_scr, isi_non, sub_non_int, sub_non_bool, sub_non_str, sub_non_tuple, sub_non_list, sub_non_dict, isi_bl, sub_bl_int, sub_bl_bool, sub_bl_str, sub_bl_tuple, sub_bl_list, sub_bl_dict, isi_int, sub_int_int, sub_int_bool, sub_int_str, sub_int_tuple, sub_int_list, sub_int_dict, isi_str, sub_str_int, sub_str_bool, sub_str_str, sub_str_tuple, sub_str_list, sub_str_dict, isi_tup, sub_tup_int, sub_tup_bool, sub_tup_str, sub_tup_tuple, sub_tup_list, sub_tup_dict, isi_lst, sub_lst_int, sub_lst_bool, sub_lst_str, sub_lst_tuple, sub_lst_list, sub_lst_dict, isi_dct, sub_dct_int, sub_dct_bool, sub_dct_str, sub_dct_tuple, sub_dct_list, sub_dct_dict, List.any_cons, List.any_nil, Bool.or_false, Bool.or_true, Bool.false_or, Bool.true_or, wR_addT, wR_addL, wO_star1, wR_inK, wR_inKI, wR_ixK, wR_ixKI, lookK_hit, lookK_nil, Option.isSome_some, Option.isSome_none, seqF_tup, seqF_lst, seqF_scr, sz0, sz1, sz2, sz3, sz4, sz5, sz6, sz7, sz8, sz9, sz10, sz11, sz12, sz13, sz14, sz15, sz16, startE, isN, List.length_cons, List.length_nil, List.map_cons, List.map_nil, List.cons_append, List.nil_append, List.getElem?_cons_zero, List.getElem?_cons_succ, List.set_cons_zero, List.set_cons_succ, List.reduceReplicate, Nat.reduceAdd, Nat.reduceSub, Nat.zero_add, Option.map_some, decide_eq_true_eq, Bool.false_eq_true, Bool.not_true, Bool.not_false, if_false, if_true, true_and, and_true, eq_wR (ha _ (show ([D.str "walk", D.int 3, D.int 3] : List D).length ≤ sizeLine by decide) (t3 _ _ _) _), eq_wR (ha _ (show ([D.str "walk", D.int 3, D.int 2] : List D).length ≤ sizeLine by decide) (t3 _ _ _) _), eq_wR (ha _ (show ([D.str "get", D.int (-5)] : List D).length ≤ sizeLine by decide) (t2 _ _) _), eq_wR (key_eq (d := .int 0) (t := "int") rfl _), eq_wR (key_eq (d := .str "0") (t := "str") rfl _), k1, k2, k3, k4, k5]
    refine wR_of (same_refl 12 _ _ ?_) rfl
    refine ⟨by decide, fun x hx => ?_⟩
    simp only [List.mem_cons, List.not_mem_nil, or_false] at hx
    rcases hx with rfl | rfl | rfl | rfl | rfl <;> trivial
end FL
namespace FL
open PySem PySem.Spec PyProof.Rows L2 FR
def top (i : Nat) : Stmt := PySem.Challenge.pw_ghostgap_k11_keys_and_asks.main.body.getD i (.Pass ⟨0, 0, 0, 0⟩)
structure Tx (K : PySem.W.Frag) (mg : Str → Option Value) : Prop where
  b_abs : mg "abs" = none
  b_all : mg "all" = none
  b_bool : mg "bool" = none
  b_int : mg "int" = none
  b_isinstance : mg "isinstance" = none
  b_len : mg "len" = none
  b_list : mg "list" = none
  b_range : mg "range" = none
  b_str : mg "str" = none
  b_tuple : mg "tuple" = none
  b_zip : mg "zip" = none
  c_LIMIT : ∃ t, mg "LIMIT" = some (.int 1000000000000000000000000000000 t)
abbrev FnP (K : PySem.W.Frag) (x : Str) (st : Stmt) (f : Addr) (fd : FuncData) : Prop := FunD K x x (defArgs st) (defBody st) (defScope st) [] [] f fd
section
variable {P : Program} {w : PySem.World} {K : PySem.W.Frag} {mg : Str → Option Value} {base : Heap} {cls : Str → Addr}
theorem sc__law_pull : FnScope ["_law_bag_here", "_law_many", "_law_cell", "_law_small", "_law_digit", "_law_seed", "_law_step"] ["_law_bag_here", "_law_many"] (defScope (top 8)) := ⟨rfl, rfl, rfl, by decide +kernel, rfl, by decide +kernel, by decide +kernel⟩
theorem ok__law_pull (T : Tx K mg) {f : Addr} {fd : FuncData} (F : FnP K "_law_pull" (top 8) f fd) (hm : mg "_law_pull" = some (.ref f)) : FnOk P w K mg base (L2.CX P w) 1 f fd ["_law_bag_here", "_law_many"] (spF K cls 2 F__law_pull) :=
  fn_F F sc__law_pull rfl (fun cdv A outer s H E hr => by
      have hu := hr.units
      have nd := (sc__law_pull).nd
      have tk := takes_of (X := cxOf (L2.CX P w) P w K mg base ["_law_bag_here", "_law_many", "_law_cell", "_law_small", "_law_digit", "_law_seed", "_law_step"] "_law_pull" (defScope (top 8)) f cdv A outer s H E) (E := E) rfl rfl rfl rfl
      have pas := passes_of (X := cxOf (L2.CX P w) P w K mg base ["_law_bag_here", "_law_many", "_law_cell", "_law_small", "_law_digit", "_law_seed", "_law_step"] "_law_pull" (defScope (top 8)) f cdv A outer s H E) rfl
      exact ⟨_, (fss_cons (fs_store hu (fe_add (fe_ix hu (fe_name 0) fe_int) fe_int) (fe_name 0) fe_int) (fss_cons (fs_if (ft_w (fw_and (ft_eq hu (fe_ix hu (fe_name 0) fe_int) fe_int) (fw_and1 (ft_lt (fe_ix hu (fe_name 0) fe_int) (fe_blt call_lenAll cs_len T.b_len bt_len (fa_cons (fe_ix hu (fe_name 0) fe_int) fa_nil)))))) (fss_cons (fs_set 2 nd (fe_ix hu (fe_ix hu (fe_name 0) fe_int) (fe_ix hu (fe_name 0) fe_int))) (fss_cons (fs_store hu (fe_add (fe_ix hu (fe_name 0) fe_int) fe_int) (fe_name 0) fe_int) (fss_one (fs_if (ft_ge (fe_blt call_abs cs_abs T.b_abs bt_abs (fa_cons (fe_name 2) fa_nil)) (fe_pow fe_int fe_int)) (fss_one (fs_store hu (fe_blt call_abs cs_abs T.b_abs bt_abs (fa_cons (fe_name 2) fa_nil)) (fe_name 0) fe_int)) (fss_cons (fs_set 3 nd (fe_add (fe_mul (fe_mod (fe_typ call_intAll cs_int T.b_int bt_int (fa_cons (fe_name 2) fa_nil)) fe_int) fe_int) fe_int)) (fss_one (fs_store hu (fe_mod (fe_typ call_intAll cs_int T.b_int bt_int (fa_cons (fe_add (fe_mul (fe_ix hu (fe_name 0) fe_int) fe_int) (fe_name 3)) fa_nil)) fe_int) (fe_name 0) fe_int))))))) fss_nil) (fss_cons (fs_if (ft_gt (fe_ix hu (fe_name 0) fe_int) fe_int) (fss_cons (fs_set 4 nd (fe_mod (fe_typ call_intAll cs_int T.b_int bt_int (fa_cons (fe_ix hu (fe_name 0) fe_int) fa_nil)) (fe_name 1))) (fss_cons (fs_store hu (fe_div (fe_ix hu (fe_name 0) fe_int) (fe_name 1)) (fe_name 0) fe_int) (fss_one (fs_ret (fe_name 4))))) fss_nil) (fss_cons (fs_set 5 nd (fe_ix hu (fe_name 0) fe_int)) (fss_cons (fs_set 6 nd (fe_add (fe_add (fe_mul (fe_name 5) fe_int) (fe_mul (fe_ix hu (fe_name 0) fe_int) fe_int)) fe_int)) (fss_cons (fs_store hu (fe_mod (fe_typ call_intAll cs_int T.b_int bt_int (fa_cons (fe_add (fe_mul (fe_mul (fe_name 5) (fe_name 5)) fe_int) (fe_name 6)) fa_nil)) fe_int) (fe_name 0) fe_int) (fss_one (fs_ret (fe_mod (fe_typ call_intAll cs_int T.b_int bt_int (fa_cons (fe_add (fe_div (fe_ix hu (fe_name 0) fe_int) fe_int) (fe_mul (fe_mod (fe_typ call_intAll cs_int T.b_int bt_int (fa_cons (fe_ix hu (fe_name 0) fe_int) fa_nil)) fe_int) fe_int)) fa_nil)) (fe_name 1))))))))))⟩)
theorem gf__law_pull (T : Tx K mg) {f : Addr} {fd : FuncData} (F : FnP K "_law_pull" (top 8) f fd) (hm : mg "_law_pull" = some (.ref f)) : GF P w K mg base cls "_law_pull" 1 2 F__law_pull :=
  ⟨⟨f, fd, ["_law_bag_here", "_law_many"], ok__law_pull T F hm, hm, F.kp, F.bindsN fun _ _ _ _ _ _ us hl => match us, hl with | [_, _], _ => rfl⟩, bodyF_st _ _ _⟩
theorem sc__law_key : FnScope ["_law_bag_here", "_law_way"] ["_law_bag_here"] (defScope (top 10)) := ⟨rfl, rfl, rfl, by decide +kernel, rfl, by decide +kernel, by decide +kernel⟩
theorem ok__law_key (T : Tx K mg) (g__law_pull : GF P w K mg base cls "_law_pull" 1 2 F__law_pull) {f : Addr} {fd : FuncData} (F : FnP K "_law_key" (top 10) f fd) (hm : mg "_law_key" = some (.ref f)) : FnOk P w K mg base (L2.CX P w) 2 f fd ["_law_bag_here"] (spF K cls 1 F__law_key) :=
  fn_F F sc__law_key rfl (fun cdv A outer s H E hr => by
      have hu := hr.units
      have nd := (sc__law_key).nd
      have tk := takes_of (X := cxOf (L2.CX P w) P w K mg base ["_law_bag_here", "_law_way"] "_law_key" (defScope (top 10)) f cdv A outer s H E) (E := E) rfl rfl rfl rfl
      have pas := passes_of (X := cxOf (L2.CX P w) P w K mg base ["_law_bag_here", "_law_way"] "_law_key" (defScope (top 10)) f cdv A outer s H E) rfl
      exact ⟨_, (fss_cons (fs_set 1 nd (fe_call g__law_pull tk (hr.mono (by decide)) (fa_cons (fe_name 0) (fa_cons fe_int fa_nil)))) (fss_cons (fs_if (ft_eq hu (fe_name 1) fe_int) (fss_one (fs_ret (fe_sub (fe_pow fe_int fe_int) (fe_call g__law_pull tk (hr.mono (by decide)) (fa_cons (fe_name 0) (fa_cons fe_int fa_nil)))))) fss_nil) (fss_cons (fs_if (ft_eq hu (fe_name 1) fe_int) (fss_one (fs_ret (fe_sub (fe_call g__law_pull tk (hr.mono (by decide)) (fa_cons (fe_name 0) (fa_cons fe_int fa_nil))) (fe_pow fe_int fe_int)))) fss_nil) (fss_one (fs_ret (fe_sub (fe_call g__law_pull tk (hr.mono (by decide)) (fa_cons (fe_name 0) (fa_cons fe_int fa_nil))) fe_int))))))⟩)
theorem gf__law_key (T : Tx K mg) (g__law_pull : GF P w K mg base cls "_law_pull" 1 2 F__law_pull) {f : Addr} {fd : FuncData} (F : FnP K "_law_key" (top 10) f fd) (hm : mg "_law_key" = some (.ref f)) : GF P w K mg base cls "_law_key" 2 1 F__law_key :=
  ⟨⟨f, fd, ["_law_bag_here"], ok__law_key T g__law_pull F hm, hm, F.kp, F.bindsN fun _ _ _ _ _ _ us hl => match us, hl with | [_], _ => rfl⟩, bodyF_st _ _ _⟩
theorem sc__law_of : FnScope ["_law_bag_here", "_law_things"] ["_law_bag_here", "_law_things"] (defScope (top 9)) := ⟨rfl, rfl, rfl, by decide +kernel, rfl, by decide +kernel, by decide +kernel⟩
theorem ok__law_of (T : Tx K mg) (g__law_pull : GF P w K mg base cls "_law_pull" 1 2 F__law_pull) {f : Addr} {fd : FuncData} (F : FnP K "_law_of" (top 9) f fd) (hm : mg "_law_of" = some (.ref f)) : FnOk P w K mg base (L2.CX P w) 2 f fd ["_law_bag_here", "_law_things"] (spF K cls 2 F__law_of) :=
  fn_F F sc__law_of rfl (fun cdv A outer s H E hr => by
      have hu := hr.units
      have nd := (sc__law_of).nd
      have tk := takes_of (X := cxOf (L2.CX P w) P w K mg base ["_law_bag_here", "_law_things"] "_law_of" (defScope (top 9)) f cdv A outer s H E) (E := E) rfl rfl rfl rfl
      have pas := passes_of (X := cxOf (L2.CX P w) P w K mg base ["_law_bag_here", "_law_things"] "_law_of" (defScope (top 9)) f cdv A outer s H E) rfl
      exact ⟨_, (fss_one (fs_ret (fe_ix hu (fe_name 1) (fe_call g__law_pull tk (hr.mono (by decide)) (fa_cons (fe_name 0) (fa_cons (fe_blt call_lenAll cs_len T.b_len bt_len (fa_cons (fe_name 1) fa_nil)) fa_nil))))))⟩)
theorem gf__law_of (T : Tx K mg) (g__law_pull : GF P w K mg base cls "_law_pull" 1 2 F__law_pull) {f : Addr} {fd : FuncData} (F : FnP K "_law_of" (top 9) f fd) (hm : mg "_law_of" = some (.ref f)) : GF P w K mg base cls "_law_of" 2 2 F__law_of :=
  ⟨⟨f, fd, ["_law_bag_here", "_law_things"], ok__law_of T g__law_pull F hm, hm, F.kp, F.bindsN fun _ _ _ _ _ _ us hl => match us, hl with | [_, _], _ => rfl⟩, bodyF_st _ _ _⟩
theorem sc__law_ask : FnScope ["_law_bag_here", "_law_word", "_law_a"] ["_law_bag_here"] (defScope (top 11)) := ⟨rfl, rfl, rfl, by decide +kernel, rfl, by decide +kernel, by decide +kernel⟩
theorem ok__law_ask (T : Tx K mg) (g__law_key : GF P w K mg base cls "_law_key" 2 1 F__law_key) (g__law_of : GF P w K mg base cls "_law_of" 2 2 F__law_of) (g__law_pull : GF P w K mg base cls "_law_pull" 1 2 F__law_pull) {f : Addr} {fd : FuncData} (F : FnP K "_law_ask" (top 11) f fd) (hm : mg "_law_ask" = some (.ref f)) : FnOk P w K mg base (L2.CX P w) 3 f fd ["_law_bag_here"] (spF K cls 1 F__law_ask) :=
  fn_F F sc__law_ask rfl (fun cdv A outer s H E hr => by
      have hu := hr.units
      have nd := (sc__law_ask).nd
      have tk := takes_of (X := cxOf (L2.CX P w) P w K mg base ["_law_bag_here", "_law_word", "_law_a"] "_law_ask" (defScope (top 11)) f cdv A outer s H E) (E := E) rfl rfl rfl rfl
      have pas := passes_of (X := cxOf (L2.CX P w) P w K mg base ["_law_bag_here", "_law_word", "_law_a"] "_law_ask" (defScope (top 11)) f cdv A outer s H E) rfl
      exact ⟨_, (fss_cons (fs_par 1 2 rfl nd (fa_cons (fe_call g__law_of tk (hr.mono (by decide)) (fa_cons (fe_name 0) (fa_cons (fe_lst (fa_cons fe_str (fa_cons fe_str (fa_cons fe_str (fa_cons fe_str (fa_cons fe_str (fa_cons fe_str fa_nil))))))) fa_nil))) (fa_cons (fe_call g__law_key tk (hr.mono (by decide)) (fa_cons (fe_name 0) fa_nil)) fa_nil)) (by decide)) (fss_cons (fs_if (ft_eq hu (fe_name 1) fe_str) (fss_one (fs_ret (fe_tup (fa_cons fe_str (fa_cons (fe_name 2) (fa_cons (fe_add (fe_name 2) (fe_call g__law_of tk (hr.mono (by decide)) (fa_cons (fe_name 0) (fa_cons (fe_lst (fa_cons fe_int (fa_cons (fe_call g__law_pull tk (hr.mono (by decide)) (fa_cons (fe_name 0) (fa_cons fe_int fa_nil))) (fa_cons (fe_call g__law_pull tk (hr.mono (by decide)) (fa_cons (fe_name 0) (fa_cons fe_int fa_nil))) (fa_cons (fe_pow fe_int fe_int) fa_nil))))) fa_nil)))) fa_nil)))))) fss_nil) (fss_one (fs_ret (fe_if (ft_eq hu (fe_name 1) fe_str) (fe_tup (fa_cons fe_str (fa_cons (fe_name 2) (fa_cons (fe_sub (fe_call g__law_pull tk (hr.mono (by decide)) (fa_cons (fe_name 0) (fa_cons fe_int fa_nil))) fe_int) fa_nil)))) (fe_tup (fa_cons (fe_name 1) (fa_cons (fe_name 2) fa_nil))))))))⟩)
theorem gf__law_ask (T : Tx K mg) (g__law_key : GF P w K mg base cls "_law_key" 2 1 F__law_key) (g__law_of : GF P w K mg base cls "_law_of" 2 2 F__law_of) (g__law_pull : GF P w K mg base cls "_law_pull" 1 2 F__law_pull) {f : Addr} {fd : FuncData} (F : FnP K "_law_ask" (top 11) f fd) (hm : mg "_law_ask" = some (.ref f)) : GF P w K mg base cls "_law_ask" 3 1 F__law_ask :=
  ⟨⟨f, fd, ["_law_bag_here"], ok__law_ask T g__law_key g__law_of g__law_pull F hm, hm, F.kp, F.bindsN fun _ _ _ _ _ _ us hl => match us, hl with | [_], _ => rfl⟩, bodyF_st _ _ _⟩
theorem sc__law_bag : FnScope ["_law_script"] ["_law_script"] (defScope (top 7)) := ⟨rfl, rfl, rfl, by decide +kernel, rfl, by decide +kernel, by decide +kernel⟩
theorem ok__law_bag (T : Tx K mg) {f : Addr} {fd : FuncData} (F : FnP K "_law_bag" (top 7) f fd) (hm : mg "_law_bag" = some (.ref f)) : FnOk P w K mg base (L2.CX P w) 1 f fd ["_law_script"] (spF K cls 1 F__law_bag) :=
  fn_F F sc__law_bag rfl (fun cdv A outer s H E hr => by
      have hu := hr.units
      have nd := (sc__law_bag).nd
      have tk := takes_of (X := cxOf (L2.CX P w) P w K mg base ["_law_script"] "_law_bag" (defScope (top 7)) f cdv A outer s H E) (E := E) rfl rfl rfl rfl
      have pas := passes_of (X := cxOf (L2.CX P w) P w K mg base ["_law_script"] "_law_bag" (defScope (top 7)) f cdv A outer s H E) rfl
      exact ⟨_, (fss_one (fs_ret (fe_cell (fa_cons (fe_typ call_list_of cs_list T.b_list bt_list (fa_cons (fe_slice (fe_name 0) fo_none (fo_some fe_int)) fa_nil)) (fa_cons fe_int (fa_cons fe_int (fa_cons fe_int (fa_cons fe_int fa_nil))))))))⟩)
theorem gf__law_bag (T : Tx K mg) {f : Addr} {fd : FuncData} (F : FnP K "_law_bag" (top 7) f fd) (hm : mg "_law_bag" = some (.ref f)) : GF P w K mg base cls "_law_bag" 1 1 F__law_bag :=
  ⟨⟨f, fd, ["_law_script"], ok__law_bag T F hm, hm, F.kp, F.bindsN fun _ _ _ _ _ _ us hl => match us, hl with | [_], _ => rfl⟩, bodyF_st _ _ _⟩
theorem sc__law_is_key : FnScope ["_law_value", "_law_good"] ["_law_value"] (defScope (top 13)) := ⟨rfl, rfl, rfl, by decide +kernel, rfl, by decide +kernel, by decide +kernel⟩
theorem ok__law_is_key (T : Tx K mg) {f : Addr} {fd : FuncData} (F : FnP K "_law_is_key" (top 13) f fd) (hm : mg "_law_is_key" = some (.ref f)) : FnOk P w K mg base (L2.CX P w) 1 f fd ["_law_value"] (spF K cls 1 F__law_is_key) :=
  fn_F F sc__law_is_key rfl (fun cdv A outer s H E hr => by
      have hu := hr.units
      have nd := (sc__law_is_key).nd
      have tk := takes_of (X := cxOf (L2.CX P w) P w K mg base ["_law_value", "_law_good"] "_law_is_key" (defScope (top 13)) f cdv A outer s H E) (E := E) rfl rfl rfl rfl
      have pas := passes_of (X := cxOf (L2.CX P w) P w K mg base ["_law_value", "_law_good"] "_law_is_key" (defScope (top 13)) f cdv A outer s H E) rfl
      exact ⟨_, (fss_cons (fs_set 1 nd (fe_and (fe_isi1 (by decide) T.b_isinstance T.b_int bt_int (fe_name 0)) (fe_one (fe_not (fe_isi1 (by decide) T.b_isinstance T.b_bool bt_bool (fe_name 0)))))) (fss_one (fs_ret (fe_and (fe_name 1) (fe_one (fe_lt (fe_blt call_abs cs_abs T.b_abs bt_abs (fa_cons (fe_name 0) fa_nil)) (fe_pow fe_int fe_int)))))))⟩)
theorem gf__law_is_key (T : Tx K mg) {f : Addr} {fd : FuncData} (F : FnP K "_law_is_key" (top 13) f fd) (hm : mg "_law_is_key" = some (.ref f)) : GF P w K mg base cls "_law_is_key" 1 1 F__law_is_key :=
  ⟨⟨f, fd, ["_law_value"], ok__law_is_key T F hm, hm, F.kp, F.bindsN fun _ _ _ _ _ _ us hl => match us, hl with | [_], _ => rfl⟩, bodyF_st _ _ _⟩
theorem sc__law_is_ask : FnScope ["_law_value", "_law_many", "_law_one"] ["_law_value"] (defScope (top 14)) := ⟨rfl, rfl, rfl, by decide +kernel, rfl, by decide +kernel, by decide +kernel⟩
theorem ok__law_is_ask (T : Tx K mg) (g__law_is_key : GF P w K mg base cls "_law_is_key" 1 1 F__law_is_key) {f : Addr} {fd : FuncData} (F : FnP K "_law_is_ask" (top 14) f fd) (hm : mg "_law_is_ask" = some (.ref f)) : FnOk P w K mg base (L2.CX P w) 2 f fd ["_law_value"] (spF K cls 1 F__law_is_ask) :=
  fn_F F sc__law_is_ask rfl (fun cdv A outer s H E hr => by
      have hu := hr.units
      have nd := (sc__law_is_ask).nd
      have tk := takes_of (X := cxOf (L2.CX P w) P w K mg base ["_law_value", "_law_many", "_law_one"] "_law_is_ask" (defScope (top 14)) f cdv A outer s H E) (E := E) rfl rfl rfl rfl
      have pas := passes_of (X := cxOf (L2.CX P w) P w K mg base ["_law_value", "_law_many", "_law_one"] "_law_is_ask" (defScope (top 14)) f cdv A outer s H E) rfl
      exact ⟨_, (fss_cons (fs_if (ft_w (fw_or (ft_not (ft_val (fe_isi1 (by decide) T.b_isinstance T.b_tuple bt_tuple (fe_name 0)))) (fw_or (ft_lt (fe_blt call_lenAll cs_len T.b_len bt_len (fa_cons (fe_name 0) fa_nil)) fe_int) (fw_or1 (ft_not (ft_val (fe_isi1 (by decide) T.b_isinstance T.b_str bt_str (fe_ix hu (fe_name 0) fe_int)))))))) (fss_one (fs_ret fe_bl)) fss_nil) (fss_cons (fs_if (ft_not (ft_val (fe_blt (cr_all rfl) cs_all T.b_all bt_all (fa_cons (fe_lc rfl nd (fi_seq (fe_slice (fe_name 0) (fo_some fe_int) fo_none)) (blkOk_by (own := [("_law_one", 2)]) rfl) (fun _ _ _ _ _ => (fg_name 2 nd)) (fun _ _ _ _ _ => fts_nil) (fun _ _ _ _ _ => (fe_call g__law_is_key tkW0 (hr.mono (by decide)) (fa_cons (fe_name 2) fa_nil))) (by decide)) fa_nil)))) (fss_one (fs_ret fe_bl)) fss_nil) (fss_cons (fs_set 1 nd (fe_disp (fps_cons fe_str fe_int (fps_cons fe_str fe_int (fps_cons fe_str fe_int (fps_cons fe_str fe_int fps_nil)))))) (fss_cons (fs_if (ft_w (fw_or (ft_notin hu (fe_ix hu (fe_name 0) fe_int) (fe_name 1)) (fw_or1 (ft_ne hu (fe_ix hu (fe_name 1) (fe_ix hu (fe_name 0) fe_int)) (fe_blt call_lenAll cs_len T.b_len bt_len (fa_cons (fe_name 0) fa_nil)))))) (fss_one (fs_ret fe_bl)) fss_nil) (fss_one (fs_ret (fe_or (fe_ne hu (fe_ix hu (fe_name 0) fe_int) fe_str) (fe_one (fe_le (fe_ix hu (fe_name 0) fe_int) (fe_ix hu (fe_name 0) fe_int))))))))))⟩)
theorem gf__law_is_ask (T : Tx K mg) (g__law_is_key : GF P w K mg base cls "_law_is_key" 1 1 F__law_is_key) {f : Addr} {fd : FuncData} (F : FnP K "_law_is_ask" (top 14) f fd) (hm : mg "_law_is_ask" = some (.ref f)) : GF P w K mg base cls "_law_is_ask" 2 1 F__law_is_ask :=
  ⟨⟨f, fd, ["_law_value"], ok__law_is_ask T g__law_is_key F hm, hm, F.kp, F.bindsN fun _ _ _ _ _ _ us hl => match us, hl with | [_], _ => rfl⟩, bodyF_st _ _ _⟩
theorem sc__law_same : FnScope ["_law_found", "_law_due", "_law_a", "_law_b"] ["_law_found", "_law_due"] (defScope (top 12)) := ⟨rfl, rfl, rfl, by decide +kernel, rfl, by decide +kernel, by decide +kernel⟩
theorem gf__law_same (T : Tx K mg) {f : Addr} {fd : FuncData} (F : FnP K "_law_same" (top 12) f fd) (hm : mg "_law_same" = some (.ref f)) : ∀ n, GF P w K mg base cls "_law_same" (0 + n) 2 (R__law_same n)
  | 0 => ⟨⟨f, fd, ["_law_found", "_law_due"], ⟨fun vs H Q E h => h.1, fun A outer s H args us vs Q E _ _ _ _ h => by obtain ⟨_, _, _, _, _, _, _, z⟩ := h; exact z.elim⟩, hm, F.kp, F.bindsN fun _ _ _ _ _ _ us hl => match us, hl with | [_, _], _ => rfl⟩, fun _ _ _ => rfl⟩
  | n + 1 => by
    have g__law_same := gf__law_same T F hm n
    exact ⟨⟨f, fd, ["_law_found", "_law_due"], fn_F (k := 0 + n) F sc__law_same rfl (fun cdv A outer s H E hr => by
        have hu := hr.units
        have nd := (sc__law_same).nd
        have tk := takes_of (X := cxOf (L2.CX P w) P w K mg base ["_law_found", "_law_due", "_law_a", "_law_b"] "_law_same" (defScope (top 12)) f cdv A outer s H E) (E := E) rfl rfl rfl rfl
        have pas := passes_of (X := cxOf (L2.CX P w) P w K mg base ["_law_found", "_law_due", "_law_a", "_law_b"] "_law_same" (defScope (top 12)) f cdv A outer s H E) rfl
        exact ⟨_, (fss_cons (fs_if (ft_w (fw_or (ft_isN (fe_name 1)) (fw_or1 (ft_isN (fe_name 0))))) (fss_one (fs_ret (fe_and (fe_isN (fe_name 1)) (fe_one (fe_isN (fe_name 0)))))) fss_nil) (fss_cons (fs_if (ft_w (fw_or (ft_val (fe_isi1 (by decide) T.b_isinstance T.b_bool bt_bool (fe_name 1))) (fw_or1 (ft_val (fe_isi1 (by decide) T.b_isinstance T.b_bool bt_bool (fe_name 0)))))) (fss_one (fs_ret (fe_and (fe_isi1 (by decide) T.b_isinstance T.b_bool bt_bool (fe_name 1)) (fe_and (fe_isi1 (by decide) T.b_isinstance T.b_bool bt_bool (fe_name 0)) (fe_one (fe_eq hu (fe_name 0) (fe_name 1))))))) fss_nil) (fss_cons (fs_if (ft_w (fw_or (ft_val (fe_isiT (by decide) (by decide) T.b_isinstance (pa_tys_cons (by rfl) T.b_list bt_list (pa_tys_cons (by rfl) T.b_tuple bt_tuple pa_tys_nil)) (fe_name 1))) (fw_or1 (ft_val (fe_isiT (by decide) (by decide) T.b_isinstance (pa_tys_cons (by rfl) T.b_list bt_list (pa_tys_cons (by rfl) T.b_tuple bt_tuple pa_tys_nil)) (fe_name 0)))))) (fss_cons (fs_if (ft_ne hu (fe_isi1 (by decide) T.b_isinstance T.b_list bt_list (fe_name 1)) (fe_isi1 (by decide) T.b_isinstance T.b_list bt_list (fe_name 0))) (fss_one (fs_ret fe_bl)) fss_nil) (fss_cons (fs_if (ft_w (fw_or (ft_ne hu (fe_isi1 (by decide) T.b_isinstance T.b_tuple bt_tuple (fe_name 1)) (fe_isi1 (by decide) T.b_isinstance T.b_tuple bt_tuple (fe_name 0))) (fw_or1 (ft_ne hu (fe_blt call_lenAll cs_len T.b_len bt_len (fa_cons (fe_name 0) fa_nil)) (fe_blt call_lenAll cs_len T.b_len bt_len (fa_cons (fe_name 1) fa_nil)))))) (fss_one (fs_ret fe_bl)) fss_nil) (fss_one (fs_ret (fe_blt (cr_all rfl) cs_all T.b_all bt_all (fa_cons (fe_lc rfl nd (fi_zip T.b_zip (fa_cons (fe_name 0) (fa_cons (fe_name 1) fa_nil))) (blkOk_by (own := [("_law_a", 2), ("_law_b", 3)]) rfl) (fun _ _ _ _ _ => (fg_tup (n := 2) rfl (fgs_cons (fg_name 2 nd) (fgs_cons (fg_name 3 nd) fgs_nil)))) (fun _ _ _ _ _ => fts_nil) (fun _ _ _ _ _ => (fe_call g__law_same tkW0 (hr.mono (by omega)) (fa_cons (fe_name 2) (fa_cons (fe_name 3) fa_nil)))) (by decide)) fa_nil)))))) fss_nil) (fss_cons (fs_if (ft_ne hu (fe_isi1 (by decide) T.b_isinstance T.b_int bt_int (fe_name 1)) (fe_isi1 (by decide) T.b_isinstance T.b_int bt_int (fe_name 0))) (fss_one (fs_ret fe_bl)) fss_nil) (fss_one (fs_ret (fe_and (fe_eq hu (fe_isi1 (by decide) T.b_isinstance T.b_str bt_str (fe_name 1)) (fe_isi1 (by decide) T.b_isinstance T.b_str bt_str (fe_name 0))) (fe_one (fe_eq hu (fe_name 0) (fe_name 1))))))))))⟩), hm, F.kp, F.bindsN fun _ _ _ _ _ _ us hl => match us, hl with | [_, _], _ => rfl⟩, bodyF_st _ _ _⟩
theorem sc_is_number : FnScope ["value"] ["value"] (defScope (top 1)) := ⟨rfl, rfl, rfl, by decide +kernel, rfl, by decide +kernel, by decide +kernel⟩
theorem ok_is_number (T : Tx K mg) {f : Addr} {fd : FuncData} (F : FnP K "is_number" (top 1) f fd) (hm : mg "is_number" = some (.ref f)) : FnOk P w K mg base (L2.CX P w) 1 f fd ["value"] (spF K cls 1 F_is_number) :=
  fn_F F sc_is_number rfl (fun cdv A outer s H E hr => by
      have hu := hr.units
      have nd := (sc_is_number).nd
      have tk := takes_of (X := cxOf (L2.CX P w) P w K mg base ["value"] "is_number" (defScope (top 1)) f cdv A outer s H E) (E := E) rfl rfl rfl rfl
      have pas := passes_of (X := cxOf (L2.CX P w) P w K mg base ["value"] "is_number" (defScope (top 1)) f cdv A outer s H E) rfl
      exact ⟨_, (fss_one (fs_ret (fe_and (fe_isi1 (by decide) T.b_isinstance T.b_int bt_int (fe_name 0)) (fe_one (fe_not (fe_isi1 (by decide) T.b_isinstance T.b_bool bt_bool (fe_name 0)))))))⟩)
theorem gf_is_number (T : Tx K mg) {f : Addr} {fd : FuncData} (F : FnP K "is_number" (top 1) f fd) (hm : mg "is_number" = some (.ref f)) : GF P w K mg base cls "is_number" 1 1 F_is_number :=
  ⟨⟨f, fd, ["value"], ok_is_number T F hm, hm, F.kp, F.bindsN fun _ _ _ _ _ _ us hl => match us, hl with | [_], _ => rfl⟩, bodyF_st _ _ _⟩
theorem sc_is_key : FnScope ["value"] ["value"] (defScope (top 4)) := ⟨rfl, rfl, rfl, by decide +kernel, rfl, by decide +kernel, by decide +kernel⟩
theorem ok_is_key (T : Tx K mg) (g_is_number : GF P w K mg base cls "is_number" 1 1 F_is_number) {f : Addr} {fd : FuncData} (F : FnP K "is_key" (top 4) f fd) (hm : mg "is_key" = some (.ref f)) : FnOk P w K mg base (L2.CX P w) 2 f fd ["value"] (spF K cls 1 F_is_key) :=
  fn_F F sc_is_key rfl (fun cdv A outer s H E hr => by
      have hu := hr.units
      have nd := (sc_is_key).nd
      have tk := takes_of (X := cxOf (L2.CX P w) P w K mg base ["value"] "is_key" (defScope (top 4)) f cdv A outer s H E) (E := E) rfl rfl rfl rfl
      have pas := passes_of (X := cxOf (L2.CX P w) P w K mg base ["value"] "is_key" (defScope (top 4)) f cdv A outer s H E) rfl
      exact ⟨_, (fss_one (fs_ret (fe_and (fe_call g_is_number tk (hr.mono (by decide)) (fa_cons (fe_name 0) fa_nil)) (fe_one (fe_lt (fe_blt call_abs cs_abs T.b_abs bt_abs (fa_cons (fe_name 0) fa_nil)) (fe_gint T.c_LIMIT))))))⟩)
theorem gf_is_key (T : Tx K mg) (g_is_number : GF P w K mg base cls "is_number" 1 1 F_is_number) {f : Addr} {fd : FuncData} (F : FnP K "is_key" (top 4) f fd) (hm : mg "is_key" = some (.ref f)) : GF P w K mg base cls "is_key" 2 1 F_is_key :=
  ⟨⟨f, fd, ["value"], ok_is_key T g_is_number F hm, hm, F.kp, F.bindsN fun _ _ _ _ _ _ us hl => match us, hl with | [_], _ => rfl⟩, bodyF_st _ _ _⟩
theorem sc_is_ask : FnScope ["value", "word", "numbers", "number"] ["value"] (defScope (top 5)) := ⟨rfl, rfl, rfl, by decide +kernel, rfl, by decide +kernel, by decide +kernel⟩
theorem ok_is_ask (T : Tx K mg) (g_is_key : GF P w K mg base cls "is_key" 2 1 F_is_key) {f : Addr} {fd : FuncData} (F : FnP K "is_ask" (top 5) f fd) (hm : mg "is_ask" = some (.ref f)) : FnOk P w K mg base (L2.CX P w) 3 f fd ["value"] (spF K cls 1 F_is_ask) :=
  fn_F F sc_is_ask rfl (fun cdv A outer s H E hr => by
      have hu := hr.units
      have nd := (sc_is_ask).nd
      have tk := takes_of (X := cxOf (L2.CX P w) P w K mg base ["value", "word", "numbers", "number"] "is_ask" (defScope (top 5)) f cdv A outer s H E) (E := E) rfl rfl rfl rfl
      have pas := passes_of (X := cxOf (L2.CX P w) P w K mg base ["value", "word", "numbers", "number"] "is_ask" (defScope (top 5)) f cdv A outer s H E) rfl
      exact ⟨_, (fss_cons (fs_if (ft_w (fw_or (ft_not (ft_val (fe_isi1 (by decide) T.b_isinstance T.b_tuple bt_tuple (fe_name 0)))) (fw_or (ft_eq hu (fe_blt call_lenAll cs_len T.b_len bt_len (fa_cons (fe_name 0) fa_nil)) fe_int) (fw_or1 (ft_not (ft_val (fe_isi1 (by decide) T.b_isinstance T.b_str bt_str (fe_ix hu (fe_name 0) fe_int)))))))) (fss_one (fs_ret fe_bl)) fss_nil) (fss_cons (fs_asg (fe_name 0) (fg_star (n := 2) (i := 1) rfl (fgs_cons (fg_name 1 nd) (fgs_cons (fg_name 2 nd) fgs_nil)) (by decide))) (fss_cons (fs_if (ft_not (ft_val (fe_blt (cr_all rfl) cs_all T.b_all bt_all (fa_cons (fe_lc rfl nd (fi_seq (fe_name 2)) (blkOk_by (own := [("number", 3)]) rfl) (fun _ _ _ _ _ => (fg_name 3 nd)) (fun _ _ _ _ _ => fts_nil) (fun _ _ _ _ _ => (fe_call g_is_key tkW0 (hr.mono (by decide)) (fa_cons (fe_name 3) fa_nil))) (by decide)) fa_nil)))) (fss_one (fs_ret fe_bl)) fss_nil) (fss_cons (fs_if (ft_in hu (fe_name 1) (fe_tup (fa_cons fe_str (fa_cons fe_str fa_nil)))) (fss_one (fs_ret (fe_eq hu (fe_blt call_lenAll cs_len T.b_len bt_len (fa_cons (fe_name 2) fa_nil)) fe_int))) fss_nil) (fss_cons (fs_if (ft_eq hu (fe_name 1) fe_str) (fss_one (fs_ret (fe_eq hu (fe_blt call_lenAll cs_len T.b_len bt_len (fa_cons (fe_name 2) fa_nil)) fe_int))) fss_nil) (fss_one (fs_ret (fe_and (fe_eq hu (fe_name 1) fe_str) (fe_and (fe_eq hu (fe_blt call_lenAll cs_len T.b_len bt_len (fa_cons (fe_name 2) fa_nil)) fe_int) (fe_one (fe_le (fe_ix hu (fe_name 2) fe_int) (fe_ix hu (fe_name 2) fe_int))))))))))))⟩)
theorem gf_is_ask (T : Tx K mg) (g_is_key : GF P w K mg base cls "is_key" 2 1 F_is_key) {f : Addr} {fd : FuncData} (F : FnP K "is_ask" (top 5) f fd) (hm : mg "is_ask" = some (.ref f)) : GF P w K mg base cls "is_ask" 3 1 F_is_ask :=
  ⟨⟨f, fd, ["value"], ok_is_ask T g_is_key F hm, hm, F.kp, F.bindsN fun _ _ _ _ _ _ us hl => match us, hl with | [_], _ => rfl⟩, bodyF_st _ _ _⟩
theorem sc_law : FnScope ["_law_script", "_law_bag_here", "_law_turn", "_law_ask_here", "_law_at", "_law_odd", "_law_some", "_law_value", "_law_known"] ["_law_script"] (defScope (top 15)) := ⟨rfl, rfl, rfl, by decide +kernel, rfl, by decide +kernel, by decide +kernel⟩
theorem ok_law (T : Tx K mg) (g__law_ask : GF P w K mg base cls "_law_ask" 3 1 F__law_ask) (g__law_bag : GF P w K mg base cls "_law_bag" 1 1 F__law_bag) (g__law_is_ask : GF P w K mg base cls "_law_is_ask" 2 1 F__law_is_ask) (g__law_is_key : GF P w K mg base cls "_law_is_key" 1 1 F__law_is_key) (g__law_of : GF P w K mg base cls "_law_of" 2 2 F__law_of) (g__law_pull : GF P w K mg base cls "_law_pull" 1 2 F__law_pull) (g__law_same : GF P w K mg base cls "_law_same" 12 2 F__law_same) (g_is_ask : GF P w K mg base cls "is_ask" 3 1 F_is_ask) (g_is_key : GF P w K mg base cls "is_key" 2 1 F_is_key) {f : Addr} {fd : FuncData} (F : FnP K "law" (top 15) f fd) (hm : mg "law" = some (.ref f)) : FnOk P w K mg base (L2.CX P w) 13 f fd ["_law_script"] (spF K cls 1 F_law) :=
  fn_F F sc_law rfl (fun cdv A outer s H E hr => by
      have hu := hr.units
      have nd := (sc_law).nd
      have tk := takes_of (X := cxOf (L2.CX P w) P w K mg base ["_law_script", "_law_bag_here", "_law_turn", "_law_ask_here", "_law_at", "_law_odd", "_law_some", "_law_value", "_law_known"] "law" (defScope (top 15)) f cdv A outer s H E) (E := E) rfl rfl rfl rfl
      have pas := passes_of (X := cxOf (L2.CX P w) P w K mg base ["_law_script", "_law_bag_here", "_law_turn", "_law_ask_here", "_law_at", "_law_odd", "_law_some", "_law_value", "_law_known"] "law" (defScope (top 15)) f cdv A outer s H E) rfl
      exact ⟨_, (fss_cons (fs_set 1 nd (fe_call g__law_bag tk (hr.mono (by decide)) (fa_cons (fe_name 0) fa_nil))) (fss_cons (fs_for pas rfl (fi_range1 T.b_range (fa_cons fe_int fa_nil)) (fg_name 2 nd) (fss_cons (fs_set 3 nd (fe_call g__law_ask tk (hr.mono (by decide)) (fa_cons (fe_name 1) fa_nil))) (fss_cons (fs_set 4 nd (fe_call g__law_pull tk (hr.mono (by decide)) (fa_cons (fe_name 1) (fa_cons (fe_blt call_lenAll cs_len T.b_len bt_len (fa_cons (fe_name 3) fa_nil)) fa_nil)))) (fss_cons (fs_set 5 nd (fe_call g__law_of tk (hr.mono (by decide)) (fa_cons (fe_name 1) (fa_cons (fe_lst (fa_cons fe_non (fa_cons fe_bl (fa_cons fe_str (fa_cons fe_str (fa_cons fe_str (fa_cons (fe_pow fe_int fe_int) (fa_cons (fe_neg (fe_pow fe_int fe_int)) (fa_cons (fe_sub (fe_pow fe_int fe_int) fe_int) (fa_cons fe_str (fa_cons (fe_neg fe_int) (fa_cons (fe_tup (fa_cons fe_int fa_nil)) (fa_cons (fe_lst (fa_cons fe_int fa_nil)) fa_nil))))))))))))) fa_nil)))) (fss_cons (fs_set 6 nd (fe_lst (fa_cons (fe_name 3) (fa_cons (fe_add (fe_add (fe_slice (fe_name 3) fo_none (fo_some (fe_name 4))) (fe_tup (fa_cons (fe_name 5) fa_nil))) (fe_slice (fe_name 3) (fo_some (fe_add (fe_name 4) fe_int)) fo_none)) (fa_cons (fe_add (fe_name 3) (fe_tup (fa_cons (fe_name 5) fa_nil))) (fa_cons (fe_add (fe_slice (fe_name 3) fo_none (fo_some (fe_name 4))) (fe_slice (fe_name 3) (fo_some (fe_add (fe_name 4) fe_int)) fo_none)) (fa_cons (fe_typ call_list_of cs_list T.b_list bt_list (fa_cons (fe_name 3) fa_nil)) (fa_cons (fe_name 5) (fa_cons (fe_tup fa_nil) fa_nil))))))))) (fss_cons (fs_set 7 nd (fe_call g__law_of tk (hr.mono (by decide)) (fa_cons (fe_name 1) (fa_cons (fe_name 6) fa_nil)))) (fss_one (fs_if (ft_not (ft_val (fe_call g__law_same tk (hr.mono (by decide)) (fa_cons (fe_lst (fa_cons (fe_call g_is_ask tk (hr.mono (by decide)) (fa_cons (fe_name 7) fa_nil)) (fa_cons (fe_call g_is_key tk (hr.mono (by decide)) (fa_cons (fe_name 5) fa_nil)) fa_nil))) (fa_cons (fe_lst (fa_cons (fe_call g__law_is_ask tk (hr.mono (by decide)) (fa_cons (fe_name 7) fa_nil)) (fa_cons (fe_call g__law_is_key tk (hr.mono (by decide)) (fa_cons (fe_name 5) fa_nil)) fa_nil))) fa_nil))))) (fss_one (fs_ret fe_bl)) fss_nil)))))))) (fss_cons (fs_set 8 nd (fe_lst (fa_cons (fe_call g_is_ask tk (hr.mono (by decide)) (fa_cons (fe_tup (fa_cons fe_str (fa_cons fe_int (fa_cons fe_int fa_nil)))) fa_nil)) (fa_cons (fe_call g_is_ask tk (hr.mono (by decide)) (fa_cons (fe_tup (fa_cons fe_str (fa_cons fe_int (fa_cons fe_int fa_nil)))) fa_nil)) (fa_cons (fe_call g_is_ask tk (hr.mono (by decide)) (fa_cons (fe_tup (fa_cons fe_str (fa_cons (fe_neg fe_int) fa_nil))) fa_nil)) (fa_cons (fe_call g_is_key tk (hr.mono (by decide)) (fa_cons fe_int fa_nil)) (fa_cons (fe_call g_is_key tk (hr.mono (by decide)) (fa_cons fe_str fa_nil)) fa_nil))))))) (fss_one (fs_ret (fe_call g__law_same tk (hr.mono (by decide)) (fa_cons (fe_name 8) (fa_cons (fe_lst (fa_cons fe_bl (fa_cons fe_bl (fa_cons fe_bl (fa_cons fe_bl (fa_cons fe_bl fa_nil)))))) fa_nil))))))))⟩)
theorem gf_law (T : Tx K mg) (g__law_ask : GF P w K mg base cls "_law_ask" 3 1 F__law_ask) (g__law_bag : GF P w K mg base cls "_law_bag" 1 1 F__law_bag) (g__law_is_ask : GF P w K mg base cls "_law_is_ask" 2 1 F__law_is_ask) (g__law_is_key : GF P w K mg base cls "_law_is_key" 1 1 F__law_is_key) (g__law_of : GF P w K mg base cls "_law_of" 2 2 F__law_of) (g__law_pull : GF P w K mg base cls "_law_pull" 1 2 F__law_pull) (g__law_same : GF P w K mg base cls "_law_same" 12 2 F__law_same) (g_is_ask : GF P w K mg base cls "is_ask" 3 1 F_is_ask) (g_is_key : GF P w K mg base cls "is_key" 2 1 F_is_key) {f : Addr} {fd : FuncData} (F : FnP K "law" (top 15) f fd) (hm : mg "law" = some (.ref f)) : GF P w K mg base cls "law" 13 1 F_law :=
  ⟨⟨f, fd, ["_law_script"], ok_law T g__law_ask g__law_bag g__law_is_ask g__law_is_key g__law_of g__law_pull g__law_same g_is_ask g_is_key F hm, hm, F.kp, F.bindsN fun _ _ _ _ _ _ us hl => match us, hl with | [_], _ => rfl⟩, bodyF_st _ _ _⟩
end
end FL
namespace FLH
open PySem PySem.Spec PyProof.Rows L2
def dl (i : Nat) (x : Str) : He.DefD := ⟨(x, none), x, x, defArgs (FL.top i), defBody (FL.top i), defScope (FL.top i), [], []⟩
def fn : List He.DefD := [dl 8 "_law_pull", dl 10 "_law_key", dl 9 "_law_of", dl 11 "_law_ask", dl 7 "_law_bag", dl 13 "_law_is_key", dl 14 "_law_is_ask", dl 12 "_law_same", dl 1 "is_number", dl 4 "is_key", dl 5 "is_ask", dl 15 "law"]
def fa : List He.Fa := [.glo "_law_pull", .glo "_law_key", .glo "_law_of", .glo "_law_ask", .glo "_law_bag", .glo "_law_is_key", .glo "_law_is_ask", .glo "_law_same", .glo "is_number", .glo "is_key", .glo "is_ask", .glo "law", .free "abs", .free "all", .free "bool", .free "int", .free "isinstance", .free "len", .free "list", .free "range", .free "str", .free "tuple", .free "zip", .int "LIMIT" 1000000000000000000000000000000]
def loose : List Str := (["is_number", "LIMIT", "is_key", "is_ask", "_law_bag", "_law_pull", "_law_of", "_law_key", "_law_ask", "_law_same", "_law_is_key", "_law_is_ask"] : List Str)
abbrev R : PySem.W.OpenRow := PySem.W.OpenLaw.row PySem.Challenge.rw_ghostgap_k11_keys_and_asks
abbrev hk : PySem.W.Hook := He.hookD 4 fa fn
def ob (s : PySem.W.SharedT) : He.AlD := He.obsDG 4 fa fn (HandSHeadRun.getT s)
theorem ob_eq (s : PySem.W.SharedT) : ob s = hk.obs s.abs := He.obsDG_eq (HandSHeadRun.getT_eq s)
theorem run (w : World) : HandSHeadRun.RunEq R (PySem.W.view R.prog [15]) hk ob 2000 loose w := by
  intro os
  kernel_rfl
theorem facts {P : Program} {w : World} {K : PySem.W.Frag} {h : Heap} {mg : Str → Option Value} {f : Addr} (X : K.In h) (G : h.Ns mainGlobals mg) (hfa : mg ("law" : Str) = some (.ref f)) (c : He.SaysD fa fn K) :
    ∃ fd : FuncData, (∀ (s : Shared) (v : Value), BindsTo s fd ⟨[v], []⟩ [("_law_script", v)]) ∧ ∀ base : Heap, K.In base → base.Ns mainGlobals mg → FnOk P w K mg base (L2.CX P w) 13 f fd ["_law_script"] (FL.spF K (He.ga K) 1 FL.F_law) := by
  have T : FL.Tx K mg := ⟨He.free_ok X G (c.fact 12 rfl), He.free_ok X G (c.fact 13 rfl), He.free_ok X G (c.fact 14 rfl), He.free_ok X G (c.fact 15 rfl), He.free_ok X G (c.fact 16 rfl), He.free_ok X G (c.fact 17 rfl), He.free_ok X G (c.fact 18 rfl), He.free_ok X G (c.fact 19 rfl), He.free_ok X G (c.fact 20 rfl), He.free_ok X G (c.fact 21 rfl), He.free_ok X G (c.fact 22 rfl), He.int_ok X G (c.fact 23 rfl)⟩
  obtain ⟨fd__law_pull, F__law_pull⟩ := c.def_ 0 (d := dl 8 "_law_pull") rfl
  have m__law_pull := He.glo_ok X G (c.fact 0 (f := .glo "_law_pull") rfl)
  obtain ⟨fd__law_key, F__law_key⟩ := c.def_ 1 (d := dl 10 "_law_key") rfl
  have m__law_key := He.glo_ok X G (c.fact 1 (f := .glo "_law_key") rfl)
  obtain ⟨fd__law_of, F__law_of⟩ := c.def_ 2 (d := dl 9 "_law_of") rfl
  have m__law_of := He.glo_ok X G (c.fact 2 (f := .glo "_law_of") rfl)
  obtain ⟨fd__law_ask, F__law_ask⟩ := c.def_ 3 (d := dl 11 "_law_ask") rfl
  have m__law_ask := He.glo_ok X G (c.fact 3 (f := .glo "_law_ask") rfl)
  obtain ⟨fd__law_bag, F__law_bag⟩ := c.def_ 4 (d := dl 7 "_law_bag") rfl
  have m__law_bag := He.glo_ok X G (c.fact 4 (f := .glo "_law_bag") rfl)
  obtain ⟨fd__law_is_key, F__law_is_key⟩ := c.def_ 5 (d := dl 13 "_law_is_key") rfl
  have m__law_is_key := He.glo_ok X G (c.fact 5 (f := .glo "_law_is_key") rfl)
  obtain ⟨fd__law_is_ask, F__law_is_ask⟩ := c.def_ 6 (d := dl 14 "_law_is_ask") rfl
  have m__law_is_ask := He.glo_ok X G (c.fact 6 (f := .glo "_law_is_ask") rfl)
  obtain ⟨fd__law_same, F__law_same⟩ := c.def_ 7 (d := dl 12 "_law_same") rfl
  have m__law_same := He.glo_ok X G (c.fact 7 (f := .glo "_law_same") rfl)
  obtain ⟨fd_is_number, F_is_number⟩ := c.def_ 8 (d := dl 1 "is_number") rfl
  have m_is_number := He.glo_ok X G (c.fact 8 (f := .glo "is_number") rfl)
  obtain ⟨fd_is_key, F_is_key⟩ := c.def_ 9 (d := dl 4 "is_key") rfl
  have m_is_key := He.glo_ok X G (c.fact 9 (f := .glo "is_key") rfl)
  obtain ⟨fd_is_ask, F_is_ask⟩ := c.def_ 10 (d := dl 5 "is_ask") rfl
  have m_is_ask := He.glo_ok X G (c.fact 10 (f := .glo "is_ask") rfl)
  obtain ⟨fd_law, F_law⟩ := c.def_ 11 (d := dl 15 "law") rfl
  have m_law := He.glo_ok X G (c.fact 11 (f := .glo "law") rfl)
  have e := hfa.symm.trans m_law
  cases e
  have b := FunD.bindsA (ps := ["_law_script"]) F_law fun _ _ _ _ _ _ us hl => match us, hl with | [_], _ => rfl
  refine ⟨fd_law, fun s v => b s [v] rfl, fun base _ _ => ?_⟩
  have g__law_pull : FL.GF P w K mg base (He.ga K) "_law_pull" 1 2 FL.F__law_pull := FL.gf__law_pull T F__law_pull m__law_pull
  have g__law_key : FL.GF P w K mg base (He.ga K) "_law_key" 2 1 FL.F__law_key := FL.gf__law_key T g__law_pull F__law_key m__law_key
  have g__law_of : FL.GF P w K mg base (He.ga K) "_law_of" 2 2 FL.F__law_of := FL.gf__law_of T g__law_pull F__law_of m__law_of
  have g__law_ask : FL.GF P w K mg base (He.ga K) "_law_ask" 3 1 FL.F__law_ask := FL.gf__law_ask T g__law_key g__law_of g__law_pull F__law_ask m__law_ask
  have g__law_bag : FL.GF P w K mg base (He.ga K) "_law_bag" 1 1 FL.F__law_bag := FL.gf__law_bag T F__law_bag m__law_bag
  have g__law_is_key : FL.GF P w K mg base (He.ga K) "_law_is_key" 1 1 FL.F__law_is_key := FL.gf__law_is_key T F__law_is_key m__law_is_key
  have g__law_is_ask : FL.GF P w K mg base (He.ga K) "_law_is_ask" 2 1 FL.F__law_is_ask := FL.gf__law_is_ask T g__law_is_key F__law_is_ask m__law_is_ask
  have g__law_same : FL.GF P w K mg base (He.ga K) "_law_same" 12 2 FL.F__law_same := FL.gf__law_same T F__law_same m__law_same 12
  have g_is_number : FL.GF P w K mg base (He.ga K) "is_number" 1 1 FL.F_is_number := FL.gf_is_number T F_is_number m_is_number
  have g_is_key : FL.GF P w K mg base (He.ga K) "is_key" 2 1 FL.F_is_key := FL.gf_is_key T g_is_number F_is_key m_is_key
  have g_is_ask : FL.GF P w K mg base (He.ga K) "is_ask" 3 1 FL.F_is_ask := FL.gf_is_ask T g_is_key F_is_ask m_is_ask
  exact FL.ok_law T g__law_ask g__law_bag g__law_is_ask g__law_is_key g__law_of g__law_pull g__law_same g_is_ask g_is_key F_law m_law
end FLH
open PySem PySem.W PySem.Calls PyProof.Rows
theorem PySem.Challenge.cw_ghostgap_k11_keys_and_asks_holds : PySem.Challenge.rw_ghostgap_k11_keys_and_asks.Holds := by
  w_on; o_law
  refine HandSHeadRun.head_any (r := OpenLaw.row PySem.Challenge.rw_ghostgap_k11_keys_and_asks) (q := view (OpenLaw.row PySem.Challenge.rw_ghostgap_k11_keys_and_asks).prog [15]) (H := FLH.hk) (ob := FLH.ob) (M := 2000) (loose := FLH.loose) (d := HandSHeadRun.topDef (OpenLaw.row PySem.Challenge.rw_ghostgap_k11_keys_and_asks).prog 15) (kwd := []) FLH.ob_eq
    (by kernel_rfl) (fun s => by kernel_rfl) FLH.run (by kernel_rfl) (by kernel_rfl) (by kernel_rfl) (by rfl) (by first | assumption | decide +kernel) (by decide +kernel) ⟨rfl, rfl, rfl, rfl, rfl, by decide +kernel⟩ ?hw ?hc
  case hw => w_witness2
  case hc =>
    refine FL.walk_F (l := PySem.Challenge.rw_ghostgap_k11_keys_and_asks) (n := 63) (k := 13) (x := "_law_script") rfl (by decide) (by kernel_rfl) ⟨rfl, by decide, by decide⟩ ?F
    intro w mg fa h Y G hmg0
    obtain ⟨K, KX, c⟩ := Y
    have hmg : mg ("law" : PySem.Str) = some (.ref fa) := by
      have e : (HandSHeadRun.topDef (OpenLaw.row PySem.Challenge.rw_ghostgap_k11_keys_and_asks).prog 15).name = ("law" : PySem.Str) := by kernel_rfl
      rw [← e]
      exact hmg0
    obtain ⟨fd, hb, hF⟩ := FLH.facts (P := (PySem.Challenge.rw_ghostgap_k11_keys_and_asks).prog) (w := w) KX G hmg c
    exact ⟨K, fd, _, KX, hb, fun H a ns hl hO hS => FL.law_end FL.law_ok hS, hF⟩
