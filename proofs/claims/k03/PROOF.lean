import PyProof.Rows.All
import Wide.All
import OpenK.AllK
import Wide.FinOn
import HandS.ForMost
import HandS.ForExc
import HandS.CallSlots
import HandS.Wide
import HandS.Gcd
import HandS.IsInst
import HandS.Conv
import HandS.More
import KE.KExcInit
import HandS.ExcInit
import HandS.ExcField
import HandS.HeadHook1
import KE.KExcIs
import HandS.ExcIs
import HandS.ExcCtx
import HandS.HotCalls
import HandS.ExcInitHot
import PySem.Challenge.RW_pageshares_k03_errors_and_their_fields
import KE.KStateDown
import HandS.Defaults
import HandS.Head0
import HandS.Head1
import HandS.Head2
import HandS.HeadEnd
import HandS.HeadHook2
import HandS.HeadHook3
import HandS.HeadHook4
set_option Elab.async false
set_option linter.all false
set_option maxRecDepth 100000
set_option maxHeartbeats 2000000
namespace DL
open PySem L2

/-! ### data -/
inductive D where
  | non | bl (b : Bool) | int (i : Int) | str (x : Str)
  | lst (xs : List D) | tup (xs : List D) | frz (xs : List D)
  | ins (c : Str) (fs : List (Str × D)) | fn (x : Str)
  | exc (a dx : Nat) (c : Str) (fs : List (Str × D))
inductive W where
  | d (x : D) | loc (n : Nat) | own (xs : List W)
inductive Cell where
  | lst (xs : List W) | ins (c : Str) (fs : List (Str × W))
abbrev Sto := List Cell
structure Exn where
  cls : Str
  fs : List (Str × D)
inductive Out (α : Type) where
  | ok (a : α) (S : Sto) | ex (e : Exn) (S : Sto) | bad
abbrev Ev := List (Option W)
inductive SOut where
  | nx (r : Ev) (S : Sto) | rt (w : W) (S : Sto) | bk (r : Ev) (S : Sto) | ct (r : Ev) (S : Sto) | ex (e : Exn) (r : Ev) (S : Sto) | bad
def Out.bind {α β : Type} : Out α → (α → Sto → Out β) → Out β
  | .ok a S, f => f a S
  | .ex e S, _ => .ex e S
  | .bad, _ => .bad
abbrev DE := Ev → Sto → Out W
abbrev DT := Ev → Sto → Out Bool
abbrev DA := Ev → Sto → Out (List W)
abbrev DS := Ev → Sto → SOut
abbrev DF := List W → Sto → Out W

/-! ### what a value stands for -/
section
variable (K : PySem.W.Frag) (mg : Str → Option Value)
mutual
inductive RV (G : Hp) : V → D → Prop
  | non : RV G .non .non
  | bl (b : Bool) : RV G (.bl b) (.bl b)
  | int (i : Int) : RV G (.int i) (.int i)
  | str (x : Str) : RV G (.str x) (.str x)
  | lst {a : Addr} {xs : List V} {ds : List D} : G a = some (.lst xs) → RVs G xs ds → RV G (.ref a) (.lst ds)
  | frz {a : Addr} {xs : List V} {ds : List D} : SqL K G a xs → RVs G xs ds → RV G (.ref a) (.frz ds)
  | tup {a : Addr} {xs : List V} {ds : List D} : SqT K G a xs → RVs G xs ds → RV G (.ref a) (.tup ds)
  | ins {a C dx : Addr} {fs : List (Str × V)} {c : Str} {ds : List (Str × D)} : mg c = some (.ref C) → G a = some (.ins C dx fs) → RFs G fs ds → RV G (.ref a) (.ins c ds)
  | fn {a : Addr} {x : Str} : mg x = some (.ref a) → RV G (.ref a) (.fn x)
  | exc {a dx : Addr} {c : Str} {fs : List (Str × V)} {ds : List (Str × D)} : G dx = some (.xd fs) → RFs G fs ds → RV G (.ref a) (.exc a dx c ds)
inductive RVs (G : Hp) : List V → List D → Prop
  | nil : RVs G [] []
  | cons {v : V} {vs : List V} {x : D} {ds : List D} : RV G v x → RVs G vs ds → RVs G (v :: vs) (x :: ds)
inductive RFs (G : Hp) : List (Str × V) → List (Str × D) → Prop
  | nil : RFs G [] []
  | cons {f : Str} {v : V} {vs : List (Str × V)} {x : D} {ds : List (Str × D)} : RV G v x → RFs G vs ds → RFs G ((f, v) :: vs) ((f, x) :: ds)
end
/-- in a cell of the store -/
inductive RL (G : Hp) (A : List Addr) : V → W → Prop
  | d {v : V} {x : D} : RV K mg G v x → RL G A v (.d x)
  | loc {a : Addr} {n : Nat} : A[n]? = some a → RL G A (.ref a) (.loc n)
abbrev RLs (G : Hp) (A : List Addr) : List V → List W → Prop := Paired (RL K mg G A)
def CellOk (H G : Hp) (A : List Addr) (a : Addr) : Cell → Prop
  | .lst ws => ∃ vs, H a = some (.lst vs) ∧ RLs K mg G A vs ws
  | .ins c fs => ∃ C dx vfs, mg c = some (.ref C) ∧ H a = some (.ins C dx vfs) ∧ Paired (fun (p : Str × V) (q : Str × W) => p.1 = q.1 ∧ RL K mg G A p.2 q.2) vfs fs
structure Rel (H G : Hp) (A : List Addr) (S : Sto) : Prop where
  ext : Same G H
  len : A.length = S.length
  nd : A.Nodup
  cell : ∀ (n : Nat) (a : Addr) (c : Cell), A[n]? = some a → S[n]? = some c → CellOk K mg H G A a c
  out : ∀ a ∈ A, G a = none ∧ ∃ o, H a = some o
mutual
inductive RW (H G : Hp) (A : List Addr) : V → W → List Addr → Prop
  | d {v : V} {x : D} : RV K mg G v x → RW H G A v (.d x) []
  | loc {a : Addr} {n : Nat} : A[n]? = some a → RW H G A (.ref a) (.loc n) []
  | own {a : Addr} {vs : List V} {ws : List W} {F : List Addr} : H a = some (.lst vs) → RWs H G A vs ws F → RW H G A (.ref a) (.own ws) (a :: F)
inductive RWs (H G : Hp) (A : List Addr) : List V → List W → List Addr → Prop
  | nil : RWs H G A [] [] []
  | cons {v : V} {vs : List V} {w : W} {ws : List W} {F F' : List Addr} : RW H G A v w F → RWs H G A vs ws F' → RWs H G A (v :: vs) (w :: ws) (F ++ F')
end
inductive RS (H G : Hp) (A : List Addr) : L2.St → Ev → List Addr → Prop
  | nil : RS H G A [] [] []
  | skip {o : Option V} {σ : L2.St} {ρ : Ev} {F : List Addr} : RS H G A σ ρ F → RS H G A (o :: σ) (none :: ρ) F
  | slot {v : V} {w : W} {σ : L2.St} {ρ : Ev} {F F' : List Addr} : RW K mg H G A v w F → RS H G A σ ρ F' → RS H G A (some v :: σ) (some w :: ρ) (F ++ F')
end
structure Sep (F : List Addr) (G : Hp) (A : List Addr) : Prop where
  nd : F.Nodup
  out : ∀ a ∈ F, G a = none ∧ a ∉ A
/-- from one state to a later one -/
structure Ext (H G : Hp) (A : List Addr) (H' G' : Hp) (A' : List Addr) : Prop where
  g : Same G G'
  a : ∃ X, A' = A ++ X
  keep : ∀ b o, H b = some o → b ∉ A → H' b = some o
  live : ∀ b o, H b = some o → ∃ o', H' b = some o'
  new : ∀ b o, G b = none → H b = some o → G' b = none
  newA : ∀ b ∈ A', b ∉ A → H b = none

section
variable {K : PySem.W.Frag} {mg : Str → Option Value} {H G H' G' H'' G'' : Hp} {A A' A'' : List Addr}
mutual
theorem RV.mono {v : V} {x : D} (e : Same G G') : RV K mg G v x → RV K mg G' v x
  | .non => .non
  | .bl b => .bl b
  | .int i => .int i
  | .str x => .str x
  | .lst h r => .lst (e _ _ h) (RVs.mono e r)
  | .frz h r => .frz (e.seq h) (RVs.mono e r)
  | .tup h r => .tup (by
      rcases h with (h | ⟨o, h⟩) | h
      · exact .inl (.inl (e _ _ h))
      · exact .inl (.inr ⟨o, e _ _ h⟩)
      · exact .inr h) (RVs.mono e r)
  | .ins h1 h2 r => .ins h1 (e _ _ h2) (RFs.mono e r)
  | .fn h => .fn h
  | .exc h r => .exc (e _ _ h) (RFs.mono e r)
theorem RVs.mono {v : List V} {x : List D} (e : Same G G') : RVs K mg G v x → RVs K mg G' v x
  | .nil => .nil
  | .cons h r => .cons (RV.mono e h) (RVs.mono e r)
theorem RFs.mono {v : List (Str × V)} {x : List (Str × D)} (e : Same G G') : RFs K mg G v x → RFs K mg G' v x
  | .nil => .nil
  | .cons h r => .cons (RV.mono e h) (RFs.mono e r)
end
theorem Ext.refl : Ext H G A H G A := ⟨Same.refl _, ⟨[], by simp⟩, fun _ _ h _ => h, fun _ o h => ⟨o, h⟩, fun _ _ h _ => h, fun _ h n => absurd h n⟩
theorem Ext.trans (a : Ext H G A H' G' A') (b : Ext H' G' A' H'' G'' A'') : Ext H G A H'' G'' A'' := by
  obtain ⟨X, rfl⟩ := a.a
  obtain ⟨Y, rfl⟩ := b.a
  refine ⟨a.g.trans b.g, ⟨X ++ Y, by simp⟩, fun c o h n => ?_, fun c o h => ?_, fun c o g h => ?_, fun c hc n => ?_⟩
  · refine b.keep c o (a.keep c o h n) fun hm => ?_
    have := a.newA c hm n
    rw [h] at this; cases this
  · obtain ⟨o', h'⟩ := a.live c o h
    exact b.live c o' h'
  · obtain ⟨o', h'⟩ := a.live c o h
    exact b.new c o' (a.new c o g h) h'
  · by_cases hm : c ∈ A ++ X
    · exact a.newA c hm n
    · have h' := b.newA c hc hm
      cases q : H c with
      | none => rfl
      | some o =>
        obtain ⟨o', z⟩ := a.live c o q
        rw [h'] at z; cases z
theorem ix_app {X : List Addr} {n : Nat} {a : Addr} (h : A[n]? = some a) : (A ++ X)[n]? = some a := by
  rw [List.getElem?_append_left (List.getElem?_eq_some_iff.mp h).1]; exact h
theorem RL.mono {v : V} {w : W} (e : Same G G') (ha : ∃ X, A' = A ++ X) : RL K mg G A v w → RL K mg G' A' v w
  | .d h => .d (h.mono e)
  | .loc h => by
    obtain ⟨X, rfl⟩ := ha
    exact .loc (ix_app h)
theorem RLs.mono {vs : List V} {ws : List W} (e : Same G G') (ha : ∃ X, A' = A ++ X) (h : RLs K mg G A vs ws) : RLs K mg G' A' vs ws := Paired.mapP h fun _ _ q => q.mono e ha
mutual
theorem RW.frame {v : V} {w : W} {F : List Addr} (e : Same G G') (ha : ∃ X, A' = A ++ X) (k : ∀ a ∈ F, ∀ o, H a = some o → H' a = some o) : RW K mg H G A v w F → RW K mg H' G' A' v w F
  | .d h => .d (h.mono e)
  | .loc h => by
    obtain ⟨X, rfl⟩ := ha
    exact .loc (ix_app h)
  | .own h r => .own (k _ (List.mem_cons_self) _ h) (RWs.frame e ha (fun a m => k a (List.mem_cons_of_mem _ m)) r)
theorem RWs.frame {v : List V} {w : List W} {F : List Addr} (e : Same G G') (ha : ∃ X, A' = A ++ X) (k : ∀ a ∈ F, ∀ o, H a = some o → H' a = some o) : RWs K mg H G A v w F → RWs K mg H' G' A' v w F
  | .nil => .nil
  | .cons h r => .cons (RW.frame e ha (fun a m => k a (List.mem_append_left _ m)) h) (RWs.frame e ha (fun a m => k a (List.mem_append_right _ m)) r)
end
mutual
theorem RW.there {v : V} {w : W} {F : List Addr} : RW K mg H G A v w F → ∀ a ∈ F, ∃ o, H a = some o
  | .d _ => fun _ m => nomatch m
  | .loc _ => fun _ m => nomatch m
  | .own h r => fun a m => by
    rcases List.mem_cons.mp m with rfl | m
    · exact ⟨_, h⟩
    · exact RWs.there r a m
theorem RWs.there {v : List V} {w : List W} {F : List Addr} : RWs K mg H G A v w F → ∀ a ∈ F, ∃ o, H a = some o
  | .nil => fun _ m => nomatch m
  | .cons h r => fun a m => by
    rcases List.mem_append.mp m with m | m
    · exact RW.there h a m
    · exact RWs.there r a m
end
theorem RS.frame {σ : L2.St} {ρ : Ev} {F : List Addr} (e : Same G G') (ha : ∃ X, A' = A ++ X) : (k : ∀ a ∈ F, ∀ o, H a = some o → H' a = some o) → RS K mg H G A σ ρ F → RS K mg H' G' A' σ ρ F
  | _, .nil => .nil
  | k, .skip r => .skip (RS.frame e ha k r)
  | k, .slot h r => .slot (h.frame e ha fun a m => k a (List.mem_append_left _ m)) (RS.frame e ha (fun a m => k a (List.mem_append_right _ m)) r)
theorem RS.there {σ : L2.St} {ρ : Ev} {F : List Addr} : RS K mg H G A σ ρ F → ∀ a ∈ F, ∃ o, H a = some o
  | .nil => fun _ m => nomatch m
  | .skip r => RS.there r
  | .slot h r => fun a m => by
    rcases List.mem_append.mp m with m | m
    · exact h.there a m
    · exact RS.there r a m
theorem RS.len {σ : L2.St} {ρ : Ev} {F : List Addr} : RS K mg H G A σ ρ F → σ.length = ρ.length
  | .nil => rfl
  | .skip r => by simp [RS.len r]
  | .slot _ r => by simp [RS.len r]
/-- the slots and what they own stand behind a step that leaves them alone -/
theorem Ext.keepF {F : List Addr} (x : Ext H G A H' G' A') (s : Sep F G A) : ∀ a ∈ F, ∀ o, H a = some o → H' a = some o := fun a m o h => x.keep a o h (s.out a m).2
theorem Ext.sep {F : List Addr} (x : Ext H G A H' G' A') (s : Sep F G A) (t : ∀ a ∈ F, ∃ o, H a = some o) : Sep F G' A' :=
  ⟨s.nd, fun a m => by
    obtain ⟨o, h⟩ := t a m
    refine ⟨x.new a o (s.out a m).1 h, fun hm => ?_⟩
    have := x.newA a hm (s.out a m).2
    rw [h] at this; cases this⟩
theorem Ext.rs {σ : L2.St} {ρ : Ev} {F : List Addr} (x : Ext H G A H' G' A') (r : RS K mg H G A σ ρ F) (s : Sep F G A) : RS K mg H' G' A' σ ρ F := r.frame x.g x.a (x.keepF s)
theorem Ext.rw {v : V} {w : W} {F : List Addr} (x : Ext H G A H' G' A') (r : RW K mg H G A v w F) (s : Sep F G A) : RW K mg H' G' A' v w F := r.frame x.g x.a (x.keepF s)
theorem Ext.rws {v : List V} {w : List W} {F : List Addr} (x : Ext H G A H' G' A') (r : RWs K mg H G A v w F) (s : Sep F G A) : RWs K mg H' G' A' v w F := r.frame x.g x.a (x.keepF s)
theorem Sep.nil : Sep [] G A := ⟨.nil, fun _ m => nomatch m⟩
theorem Sep.left {F F' : List Addr} (s : Sep (F ++ F') G A) : Sep F G A := ⟨(List.nodup_append.mp s.nd).1, fun a m => s.out a (List.mem_append_left _ m)⟩
theorem Sep.right {F F' : List Addr} (s : Sep (F ++ F') G A) : Sep F' G A := ⟨(List.nodup_append.mp s.nd).2.1, fun a m => s.out a (List.mem_append_right _ m)⟩
/-- a new object in the frozen part -/
theorem fresh_G (r : Rel K mg H G A S) {p : Addr} (hp : H p = none) : G p = none := r.ext.free hp
theorem fresh_A (r : Rel K mg H G A S) {p : Addr} (hp : H p = none) : p ∉ A := fun m => by
  obtain ⟨_, o, h⟩ := r.out p m
  rw [hp] at h; cases h
theorem cell_mono {a : Addr} {c : Cell} (k : ∀ o, H a = some o → H' a = some o) (e : Same G G') (ha : ∃ X, A' = A ++ X) (h : CellOk K mg H G A a c) : CellOk K mg H' G' A' a c := by
  cases c with
  | lst ws =>
    obtain ⟨vs, h1, h2⟩ := h
    exact ⟨vs, k _ h1, h2.mono e ha⟩
  | ins c fs =>
    obtain ⟨C, dx, vfs, h1, h2, h3⟩ := h
    exact ⟨C, dx, vfs, h1, k _ h2, Paired.mapP h3 fun _ _ q => ⟨q.1, q.2.mono e ha⟩⟩
theorem same_new {p : Addr} {o : HO} (hp : H p = none) : Same H (upd H p o) := fun b u h => by rw [upd_ne (ne_of_none h hp)]; exact h
theorem same_both {p : Addr} {o : HO} (e : Same G H) (hp : H p = none) : Same (upd G p o) (upd H p o) := fun b u h => by
  by_cases q : b = p
  · subst q; rw [upd_same] at h ⊢; exact h
  · rw [upd_ne q] at h ⊢; exact e _ _ h
theorem Rel.lay {S : Sto} {p : Addr} {o : HO} (r : Rel K mg H G A S) (hp : H p = none) : Rel K mg (upd H p o) (upd G p o) A S where
  ext := same_both r.ext hp
  len := r.len
  nd := r.nd
  cell := fun n a c h1 h2 => cell_mono (fun u h => by rw [upd_ne (ne_of_none h hp)]; exact h) (same_new (r.ext.free hp)) ⟨[], by simp⟩ (r.cell n a c h1 h2)
  out := fun a m => by
    obtain ⟨h1, u, h2⟩ := r.out a m
    have ne : a ≠ p := ne_of_none h2 hp
    rw [upd_ne ne, upd_ne ne]
    exact ⟨h1, u, h2⟩
theorem Ext.lay {S : Sto} {p : Addr} {o : HO} (r : Rel K mg H G A S) (hp : H p = none) : Ext H G A (upd H p o) (upd G p o) A where
  g := same_new (r.ext.free hp)
  a := ⟨[], by simp⟩
  keep := fun b u h _ => same_new hp b u h
  live := fun b u h => ⟨u, same_new hp b u h⟩
  new := fun b u g h => by rw [upd_ne (ne_of_none h hp)]; exact g
  newA := fun b m n => absurd m n
/-- a new object that is not frozen -/
theorem Rel.layO {S : Sto} {p : Addr} {o : HO} (r : Rel K mg H G A S) (hp : H p = none) : Rel K mg (upd H p o) G A S where
  ext := r.ext.trans (same_new hp)
  len := r.len
  nd := r.nd
  cell := fun n a c h1 h2 => cell_mono (fun u h => same_new hp a u h) (Same.refl _) ⟨[], by simp⟩ (r.cell n a c h1 h2)
  out := fun a m => by
    obtain ⟨h1, u, h2⟩ := r.out a m
    exact ⟨h1, u, same_new hp a u h2⟩
theorem Ext.layO {p : Addr} {o : HO} (hp : H p = none) : Ext H G A (upd H p o) G A where
  g := Same.refl _
  a := ⟨[], by simp⟩
  keep := fun b u h _ => same_new hp b u h
  live := fun b u h => ⟨u, same_new hp b u h⟩
  new := fun b u g _ => g
  newA := fun b m n => absurd m n
end

/-! ### readings made of denotations -/
section
variable (K : PySem.W.Frag) (mg : Str → Option Value)
/-- an exception as it lies -/
def RX (H0 H G : Hp) (c : Value) (d : Option Addr) (e : Exn) : Prop := mg e.cls = some c ∧ ∃ dx vfs, d = some dx ∧ H dx = some (.xd vfs) ∧ RFs K mg G vfs e.fs ∧ H0 dx = none
def PX (H G : Hp) (A : List Addr) (E : XK) (e : Exn) (S : Sto) : Prop := ∀ c d H' G' A', Ext H G A H' G' A' → Rel K mg H' G' A' S → RX K mg H H' G' c d e → E c d H'
def PostE (H G : Hp) (A : List Addr) (E : XK) (Q : VK) : Out W → Prop
  | .ok w S => ∀ v H' G' A' F, Ext H G A H' G' A' → Rel K mg H' G' A' S → RW K mg H' G' A' v w F → Sep F G' A' → (∀ a ∈ F, H a = none) → Q v H'
  | .ex e S => PX K mg H G A E e S
  | .bad => False
def PostA (H G : Hp) (A : List Addr) (E : XK) (Q : List V → Hp → Prop) : Out (List W) → Prop
  | .ok w S => ∀ v H' G' A' F, Ext H G A H' G' A' → Rel K mg H' G' A' S → RWs K mg H' G' A' v w F → Sep F G' A' → (∀ a ∈ F, H a = none) → Q v H'
  | .ex e S => PX K mg H G A E e S
  | .bad => False
def PostT (H G : Hp) (A : List Addr) (E : XK) (Q : Bool → Hp → Prop) : Out Bool → Prop
  | .ok b S => ∀ H' G' A', Ext H G A H' G' A' → Rel K mg H' G' A' S → Q b H'
  | .ex e S => PX K mg H G A E e S
  | .bad => False
def tE (den : DE) (Wx : WX) : TE := fun σ H Q => ∃ G A F ρ S, Rel K mg H G A S ∧ RS K mg H G A σ ρ F ∧ Sep F G A ∧ PostE K mg H G A (WE Wx σ) Q (den ρ S)
def tA (den : DA) (Wx : WX) : TA := fun σ H Q => ∃ G A F ρ S, Rel K mg H G A S ∧ RS K mg H G A σ ρ F ∧ Sep F G A ∧ PostA K mg H G A (WE Wx σ) Q (den ρ S)
def tT (den : DT) (Wx : WX) : TT := fun σ H Q => ∃ G A F ρ S, Rel K mg H G A S ∧ RS K mg H G A σ ρ F ∧ Sep F G A ∧ PostT K mg H G A (WE Wx σ) Q (den ρ S)
/-- the entry of a def -/
structure En where
  H : Hp
  G : Hp
  A : List Addr
  L : Hp
def En.up (e : En) (L : Hp) : En := ⟨e.H, e.G, e.A, L⟩
structure SR (e : En) (σ : L2.St) (ρ : Ev) (H G : Hp) (A F : List Addr) (S : Sto) : Prop where
  rel : Rel K mg H G A S
  rs : RS K mg H G A σ ρ F
  sep : Sep F G A
  ext : Ext e.H e.G e.A H G A
  young : ∀ a ∈ F, e.H a = none
  low : Same e.L G
def PostS (e : En) (Wx : WX) (Dn : Ends) : SOut → Prop
  | .nx ρ S => ∀ σ H G A F, SR K mg e σ ρ H G A F S → Dn.nx σ H
  | .bk ρ S => ∀ σ H G A F, SR K mg e σ ρ H G A F S → Dn.bk σ H
  | .ct ρ S => ∀ σ H G A F, SR K mg e σ ρ H G A F S → Dn.ct σ H
  | .rt w S => ∀ v H G A F, Ext e.H e.G e.A H G A → Rel K mg H G A S → RW K mg H G A v w F → Sep F G A → (∀ a ∈ F, e.H a = none) → Dn.rt v H
  | .ex x ρ S => ∀ c d σ H G A F, SR K mg e σ ρ H G A F S → RX K mg e.H H G c d x → Wx c d σ H
  | .bad => False
def tS (e : En) (den : DS) (Wx : WX) : TS := fun Dn σ H => ∃ G A F ρ S, SR K mg e σ ρ H G A F S ∧ PostS K mg e Wx Dn (den ρ S)
/-- a def's promise -/
def spD (np : Nat) (den : DF) : Sp := fun vs H Q E => vs.length = np ∧ ∃ G A ws S, Rel K mg H G A S ∧ RWs K mg H G A vs ws [] ∧ PostE K mg H G A E Q (den ws S)
end
end DL

set_option Elab.async false
set_option linter.all false
set_option maxRecDepth 100000
set_option maxHeartbeats 2000000
namespace DL
open PySem L2
theorem Out.bind_ok {α β : Type} (a : α) (S : Sto) (f : α → Sto → Out β) : (Out.ok a S).bind f = f a S := rfl
theorem Out.bind_ex {α β : Type} (e : Exn) (S : Sto) (f : α → Sto → Out β) : (Out.ex e S).bind f = .ex e S := rfl
theorem Out.bind_bad {α β : Type} (f : α → Sto → Out β) : (Out.bad).bind f = .bad := rfl
section
variable {K : PySem.W.Frag} {mg : Str → Option Value} {H G H' G' : Hp} {A A' : List Addr} {E : XK} {Q : VK}
theorem fresh_from (x : Ext H G A H' G' A') {a : Addr} (h : H' a = none) : H a = none := by
  cases q : H a with
  | none => rfl
  | some o =>
    obtain ⟨o', z⟩ := x.live a o q
    rw [h] at z; cases z
theorem RX.from {H0 G0 H1 G1 : Hp} {A0 A1 : List Addr} {c : Value} {d : Option Addr} {e : Exn} (x : Ext H0 G0 A0 H1 G1 A1) (h : RX K mg H1 H G c d e) : RX K mg H0 H G c d e := by
  obtain ⟨h1, dx, vfs, h2, h3, h4, h5⟩ := h
  exact ⟨h1, dx, vfs, h2, h3, h4, fresh_from x h5⟩
theorem PX.later {e : Exn} {S : Sto} (x : Ext H G A H' G' A') (h : PX K mg H G A E e S) : PX K mg H' G' A' E e S := fun c d H2 G2 A2 y r z => h c d H2 G2 A2 (x.trans y) r (RX.from x z)
theorem PostE.later {o : Out W} (x : Ext H G A H' G' A') (h : PostE K mg H G A E Q o) : PostE K mg H' G' A' E Q o := by
  cases o with
  | ok w S => exact fun v H2 G2 A2 F y r z s f => h v H2 G2 A2 F (x.trans y) r z s fun a m => fresh_from x (f a m)
  | ex e S => exact PX.later x h
  | bad => exact h
theorem PostA.later {Q : List V → Hp → Prop} {o : Out (List W)} (x : Ext H G A H' G' A') (h : PostA K mg H G A E Q o) : PostA K mg H' G' A' E Q o := by
  cases o with
  | ok w S => exact fun v H2 G2 A2 F y r z s f => h v H2 G2 A2 F (x.trans y) r z s fun a m => fresh_from x (f a m)
  | ex e S => exact PX.later x h
  | bad => exact h
theorem PostT.later {Q : Bool → Hp → Prop} {o : Out Bool} (x : Ext H G A H' G' A') (h : PostT K mg H G A E Q o) : PostT K mg H' G' A' E Q o := by
  cases o with
  | ok w S => exact fun H2 G2 A2 y r => h H2 G2 A2 (x.trans y) r
  | ex e S => exact PX.later x h
  | bad => exact h
end
section
variable {X : Cx}
theorem PE_imp {e : Expr} {t t' : TE} (h : PE X e t) (k : ∀ σ H Q, t' σ H Q → t σ H Q) : PE X e t' := ⟨fun p s σ H Q I q => h.run p s σ H Q I (k σ H Q q)⟩
theorem PT_imp {e : Expr} {t t' : TT} (h : PT X e t) (k : ∀ σ H Q, t' σ H Q → t σ H Q) : PT X e t' := ⟨fun p s σ H Q I q => h.run p s σ H Q I (k σ H Q q)⟩
theorem PW_imp {e : Expr} {t t' : TT} (h : PW X e t) (k : ∀ σ H Q, t' σ H Q → t σ H Q) : PW X e t' := ⟨fun w p s σ H Q I q => h.run w p s σ H Q I (k σ H Q q)⟩
theorem PA_imp {e : List Expr} {t t' : TA} (h : PA X e t) (k : ∀ σ H Q, t' σ H Q → t σ H Q) : PA X e t' := ⟨fun pos p s σ H Q I q => h.run pos p s σ H Q I (k σ H Q q)⟩
theorem PS_imp {e : Stmt} {t t' : TS} (h : PS X e t) (k : ∀ D σ H, t' D σ H → t D σ H) : PS X e t' := ⟨fun p s σ H D I q => h.run p s σ H D I (k D σ H q)⟩
theorem PSs_imp {e : List Stmt} {t t' : TS} (h : PSs X e t) (k : ∀ D σ H, t' D σ H → t D σ H) : PSs X e t' := ⟨fun p s σ H D I q => h.run p s σ H D I (k D σ H q)⟩
end
abbrev JE (X : Cx) (e : Expr) (d : DE) (Wx : WX) : Prop := PE X e (tE X.K X.mg d Wx)
abbrev JT (X : Cx) (e : Expr) (d : DT) (Wx : WX) : Prop := PT X e (tT X.K X.mg d Wx)
abbrev JW (X : Cx) (e : Expr) (d : DT) (Wx : WX) : Prop := PW X e (tT X.K X.mg d Wx)
abbrev JA (X : Cx) (e : List Expr) (d : DA) (Wx : WX) : Prop := PA X e (tA X.K X.mg d Wx)
abbrev JS (X : Cx) (en : En) (s : Stmt) (d : DS) (Wx : WX) : Prop := PS X s (tS X.K X.mg en d Wx)
abbrev JB (X : Cx) (en : En) (s : List Stmt) (d : DS) (Wx : WX) : Prop := PSs X s (tS X.K X.mg en d Wx)

/-! ### chaining -/
section
variable {K : PySem.W.Frag} {mg : Str → Option Value} {H G : Hp} {A F : List Addr} {ρ : Ev} {S : Sto} {σ : L2.St} {Wx : WX} {Q : VK}
/-- an expression, then k -/
theorem e_then {da : DE} {k : W → Sto → Out W} {R : VK} (rel : Rel K mg H G A S) (rs : RS K mg H G A σ ρ F) (sep : Sep F G A) (po : PostE K mg H G A (WE Wx σ) Q ((da ρ S).bind k))
    (h : ∀ w S1 v H1 G1 A1 F1, Ext H G A H1 G1 A1 → Rel K mg H1 G1 A1 S1 → RW K mg H1 G1 A1 v w F1 → Sep F1 G1 A1 → RS K mg H1 G1 A1 σ ρ F → Sep F G1 A1 → (∀ a ∈ F1, H a = none) → PostE K mg H1 G1 A1 (WE Wx σ) Q (k w S1) → R v H1) : tE K mg da Wx σ H R := by
  refine ⟨G, A, F, ρ, S, rel, rs, sep, ?_⟩
  cases e : da ρ S with
  | ok w S1 =>
    rw [e] at po
    exact fun v H1 G1 A1 F1 x r z s f => h w S1 v H1 G1 A1 F1 x r z s (x.rs rs sep) (x.sep sep rs.there) f (PostE.later x po)
  | ex e' S1 =>
    rw [e] at po
    exact po
  | bad =>
    rw [e] at po
    exact po
theorem e_thenT {da : DE} {k : W → Sto → Out Bool} {R : VK} {Q : Bool → Hp → Prop} (rel : Rel K mg H G A S) (rs : RS K mg H G A σ ρ F) (sep : Sep F G A) (po : PostT K mg H G A (WE Wx σ) Q ((da ρ S).bind k))
    (h : ∀ w S1 v H1 G1 A1 F1, Ext H G A H1 G1 A1 → Rel K mg H1 G1 A1 S1 → RW K mg H1 G1 A1 v w F1 → Sep F1 G1 A1 → RS K mg H1 G1 A1 σ ρ F → Sep F G1 A1 → (∀ a ∈ F1, H a = none) → PostT K mg H1 G1 A1 (WE Wx σ) Q (k w S1) → R v H1) : tE K mg da Wx σ H R := by
  refine ⟨G, A, F, ρ, S, rel, rs, sep, ?_⟩
  cases e : da ρ S with
  | ok w S1 =>
    rw [e] at po
    exact fun v H1 G1 A1 F1 x r z s f => h w S1 v H1 G1 A1 F1 x r z s (x.rs rs sep) (x.sep sep rs.there) f (PostT.later x po)
  | ex e' S1 =>
    rw [e] at po
    exact po
  | bad =>
    rw [e] at po
    exact po
theorem e_thenA {da : DE} {k : W → Sto → Out (List W)} {R : VK} {Q : List V → Hp → Prop} (rel : Rel K mg H G A S) (rs : RS K mg H G A σ ρ F) (sep : Sep F G A) (po : PostA K mg H G A (WE Wx σ) Q ((da ρ S).bind k))
    (h : ∀ w S1 v H1 G1 A1 F1, Ext H G A H1 G1 A1 → Rel K mg H1 G1 A1 S1 → RW K mg H1 G1 A1 v w F1 → Sep F1 G1 A1 → RS K mg H1 G1 A1 σ ρ F → Sep F G1 A1 → (∀ a ∈ F1, H a = none) → PostA K mg H1 G1 A1 (WE Wx σ) Q (k w S1) → R v H1) : tE K mg da Wx σ H R := by
  refine ⟨G, A, F, ρ, S, rel, rs, sep, ?_⟩
  cases e : da ρ S with
  | ok w S1 =>
    rw [e] at po
    exact fun v H1 G1 A1 F1 x r z s f => h w S1 v H1 G1 A1 F1 x r z s (x.rs rs sep) (x.sep sep rs.there) f (PostA.later x po)
  | ex e' S1 =>
    rw [e] at po
    exact po
  | bad =>
    rw [e] at po
    exact po
/-- a list of expressions, then k -/
theorem a_thenA {da : DA} {k : List W → Sto → Out (List W)} {R Q : List V → Hp → Prop} (rel : Rel K mg H G A S) (rs : RS K mg H G A σ ρ F) (sep : Sep F G A) (po : PostA K mg H G A (WE Wx σ) Q ((da ρ S).bind k))
    (h : ∀ w S1 v H1 G1 A1 F1, Ext H G A H1 G1 A1 → Rel K mg H1 G1 A1 S1 → RWs K mg H1 G1 A1 v w F1 → Sep F1 G1 A1 → RS K mg H1 G1 A1 σ ρ F → Sep F G1 A1 → (∀ a ∈ F1, H a = none) → PostA K mg H1 G1 A1 (WE Wx σ) Q (k w S1) → R v H1) : tA K mg da Wx σ H R := by
  refine ⟨G, A, F, ρ, S, rel, rs, sep, ?_⟩
  cases e : da ρ S with
  | ok w S1 =>
    rw [e] at po
    exact fun v H1 G1 A1 F1 x r z s f => h w S1 v H1 G1 A1 F1 x r z s (x.rs rs sep) (x.sep sep rs.there) f (PostA.later x po)
  | ex e' S1 =>
    rw [e] at po
    exact po
  | bad =>
    rw [e] at po
    exact po
theorem a_then {da : DA} {k : List W → Sto → Out W} {R : List V → Hp → Prop} (rel : Rel K mg H G A S) (rs : RS K mg H G A σ ρ F) (sep : Sep F G A) (po : PostE K mg H G A (WE Wx σ) Q ((da ρ S).bind k))
    (h : ∀ w S1 v H1 G1 A1 F1, Ext H G A H1 G1 A1 → Rel K mg H1 G1 A1 S1 → RWs K mg H1 G1 A1 v w F1 → Sep F1 G1 A1 → RS K mg H1 G1 A1 σ ρ F → Sep F G1 A1 → (∀ a ∈ F1, H a = none) → PostE K mg H1 G1 A1 (WE Wx σ) Q (k w S1) → R v H1) : tA K mg da Wx σ H R := by
  refine ⟨G, A, F, ρ, S, rel, rs, sep, ?_⟩
  cases e : da ρ S with
  | ok w S1 =>
    rw [e] at po
    exact fun v H1 G1 A1 F1 x r z s f => h w S1 v H1 G1 A1 F1 x r z s (x.rs rs sep) (x.sep sep rs.there) f (PostE.later x po)
  | ex e' S1 =>
    rw [e] at po
    exact po
  | bad =>
    rw [e] at po
    exact po
/-- a test, then k -/
theorem t_thenT {da : DT} {k : Bool → Sto → Out Bool} {R Q : Bool → Hp → Prop} (rel : Rel K mg H G A S) (rs : RS K mg H G A σ ρ F) (sep : Sep F G A) (po : PostT K mg H G A (WE Wx σ) Q ((da ρ S).bind k))
    (h : ∀ w S1 H1 G1 A1, Ext H G A H1 G1 A1 → Rel K mg H1 G1 A1 S1 → RS K mg H1 G1 A1 σ ρ F → Sep F G1 A1 → PostT K mg H1 G1 A1 (WE Wx σ) Q (k w S1) → R w H1) : tT K mg da Wx σ H R := by
  refine ⟨G, A, F, ρ, S, rel, rs, sep, ?_⟩
  cases e : da ρ S with
  | ok w S1 =>
    rw [e] at po
    exact fun H1 G1 A1 x r => h w S1 H1 G1 A1 x r (x.rs rs sep) (x.sep sep rs.there) (PostT.later x po)
  | ex e' S1 =>
    rw [e] at po
    exact po
  | bad =>
    rw [e] at po
    exact po
theorem t_then {da : DT} {k : Bool → Sto → Out W} {R : Bool → Hp → Prop} (rel : Rel K mg H G A S) (rs : RS K mg H G A σ ρ F) (sep : Sep F G A) (po : PostE K mg H G A (WE Wx σ) Q ((da ρ S).bind k))
    (h : ∀ w S1 H1 G1 A1, Ext H G A H1 G1 A1 → Rel K mg H1 G1 A1 S1 → RS K mg H1 G1 A1 σ ρ F → Sep F G1 A1 → PostE K mg H1 G1 A1 (WE Wx σ) Q (k w S1) → R w H1) : tT K mg da Wx σ H R := by
  refine ⟨G, A, F, ρ, S, rel, rs, sep, ?_⟩
  cases e : da ρ S with
  | ok w S1 =>
    rw [e] at po
    exact fun H1 G1 A1 x r => h w S1 H1 G1 A1 x r (x.rs rs sep) (x.sep sep rs.there) (PostE.later x po)
  | ex e' S1 =>
    rw [e] at po
    exact po
  | bad =>
    rw [e] at po
    exact po
end

/-! ### names, constants -/
def dC (x : D) : DE := fun _ S => .ok (.d x) S
def stab : W → Sto → Out W
  | .own _, _ => .bad
  | w, S => .ok w S
def dVar (i : Nat) : DE := fun ρ S => match ρ[i]? with
  | some (some w) => stab w S
  | _ => .bad
section
variable {K : PySem.W.Frag} {mg : Str → Option Value} {H G : Hp} {A F : List Addr} {ρ : Ev} {S : Sto} {σ : L2.St} {Wx : WX} {Q : VK}
theorem RS.get {H G : Hp} {A : List Addr} {σ : L2.St} {ρ : Ev} {F : List Addr} {i : Nat} {w : W} : RS K mg H G A σ ρ F → ρ[i]? = some (some w) → ∃ v F1, σ[i]? = some (some v) ∧ RW K mg H G A v w F1 ∧ ∀ a ∈ F1, a ∈ F := by
  intro r
  induction r generalizing i with
  | nil => intro h; simp at h
  | skip r ih =>
    intro h
    cases i with
    | zero => simp at h
    | succ i =>
      obtain ⟨v, F1, h1, h2, h3⟩ := ih (i := i) (by simpa using h)
      exact ⟨v, F1, by simpa using h1, h2, h3⟩
  | slot q r ih =>
    intro h
    cases i with
    | zero =>
      simp at h
      subst h
      exact ⟨_, _, by simp, q, fun a m => List.mem_append_left _ m⟩
    | succ i =>
      obtain ⟨v, F1, h1, h2, h3⟩ := ih (i := i) (by simpa using h)
      exact ⟨v, F1, by simpa using h1, h2, fun a m => List.mem_append_right _ (h3 a m)⟩
theorem stab_nil {v : V} {w : W} {F1 : List Addr} {S' : Sto} {w' : W} (r : RW K mg H G A v w F1) (h : stab w S = .ok w' S') : w' = w ∧ S' = S ∧ F1 = [] := by
  cases r with
  | d r => cases h; exact ⟨rfl, rfl, rfl⟩
  | loc r => cases h; exact ⟨rfl, rfl, rfl⟩
  | own _ _ => cases h
theorem stab_ok {w : W} {o : Out W} (h : stab w S = o) (hb : o ≠ .bad) : o = .ok w S := by
  subst h
  cases w with
  | d x => rfl
  | loc n => rfl
  | own xs => exact absurd rfl hb
end
section
variable {X : Cx} {Wx : WX}
theorem e_var {i : Nat} {x : Str} {pos : Pos} (hN : X.N[i]? = some x := by rfl) (hv : Vis X.env.scope x := by first | exact Or.inl rfl | exact Or.inr (Or.inl rfl) | exact Or.inr (Or.inr rfl)) (hd : (x == ("__debug__" : Str)) = false := by decide)
    (hcd : (x == ("__classdict__" : Str)) = false := by decide) : JE X (.Name x pos) (dVar i) Wx := by
  refine PE_imp (pe_var hN hv hd hcd) ?_
  rintro σ H Q ⟨G, A, F, ρ, S, rel, rs, sep, po⟩
  unfold dVar at po
  split at po
  · rename_i w e
    obtain ⟨v, F1, h1, h2, h3⟩ := rs.get e
    refine ⟨v, h1, ?_⟩
    cases h2 with
    | d r => exact po v H G A [] .refl rel (.d r) .nil (fun _ m => nomatch m)
    | loc r => exact po _ H G A [] .refl rel (.loc r) .nil (fun _ m => nomatch m)
    | own _ _ => exact po.elim
  · exact po.elim
theorem e_const {e : Expr} {v : V} {x : D} (h : PE X e (tC v)) (r : ∀ G, RV X.K X.mg G v x) : JE X e (dC x) Wx := by
  refine PE_imp h ?_
  rintro σ H Q ⟨G, A, F, ρ, S, rel, rs, sep, po⟩
  exact po v H G A [] .refl rel (.d (r G)) .nil (fun _ m => nomatch m)
end
end DL

set_option Elab.async false
set_option linter.all false
set_option maxRecDepth 100000
set_option maxHeartbeats 2000000
namespace DL
open PySem L2
theorem no_some {α : Type} {z : α} {P : Prop} (e : (none : Option α) = some z) : P := by cases e
/-! ### operators by values -/
def ap1 (f : D → Option D) : W → Sto → Out W
  | .d x, S => match f x with
    | some z => .ok (.d z) S
    | none => .bad
  | _, _ => .bad
def ap2 (f : D → D → Option D) : W → W → Sto → Out W
  | .d x, .d y, S => match f x y with
    | some z => .ok (.d z) S
    | none => .bad
  | _, _, _ => .bad
def dOp (f : D → D → Option D) (a b : DE) : DE := fun ρ S => (a ρ S).bind fun x S1 => (b ρ S1).bind fun y S2 => ap2 f x y S2
def dUn (f : D → Option D) (a : DE) : DE := fun ρ S => (a ρ S).bind fun x S1 => ap1 f x S1
/-- a reading by values against a function of data; the heap may grow -/
def OpD (K : PySem.W.Frag) (mg : Str → Option Value) (r : R2) (f : D → D → Option D) : Prop :=
  ∀ {v u : V} {x y z : D} {H G : Hp} {A : List Addr} {S : Sto} {Q : VK}, Rel K mg H G A S → RV K mg G v x → RV K mg G u y → f x y = some z →
    (∀ v' H' G', Ext H G A H' G' A → Rel K mg H' G' A S → RV K mg G' v' z → Q v' H') → r v u H Q
def UnD (K : PySem.W.Frag) (mg : Str → Option Value) (r : V → Hp → VK → Prop) (f : D → Option D) : Prop :=
  ∀ {v : V} {x z : D} {H G : Hp} {A : List Addr} {S : Sto} {Q : VK}, Rel K mg H G A S → RV K mg G v x → f x = some z →
    (∀ v' H' G', Ext H G A H' G' A → Rel K mg H' G' A S → RV K mg G' v' z → Q v' H') → r v H Q
section
variable {K : PySem.W.Frag} {mg : Str → Option Value} {Wx : WX} {X : Cx}
theorem tOp_of {r : R2} {f : D → D → Option D} {da db : DE} (hf : OpD K mg r f) (σ : L2.St) (H : Hp) (Q : VK) (h : tE K mg (dOp f da db) Wx σ H Q) : tOp r (tE K mg da Wx) (tE K mg db Wx) σ H Q := by
  obtain ⟨G, A, F, ρ, S, rel, rs, sep, po⟩ := h
  refine e_then rel rs sep po fun w S1 v H1 G1 A1 F1 x1 r1 z1 s1 rs1 sep1 f1 po1 => ?_
  refine e_then r1 rs1 sep1 po1 fun w2 S2 u H2 G2 A2 F2 x2 r2 z2 s2 rs2 sep2 f2 po2 => ?_
  have z1' := x2.rw z1 s1
  cases z1' with
  | d q1 =>
    cases z2 with
    | d q2 =>
      unfold ap2 at po2
      dsimp only at po2
      split at po2
      · rename_i z e
        exact hf r2 q1 q2 e fun v' H' G' y ry rv => po2 v' H' G' A2 [] y ry (.d rv) .nil (fun _ m => nomatch m)
      · exact po2.elim
    | loc _ => exact po2.elim
    | own _ _ => exact po2.elim
  | loc _ => exact po2.elim
  | own _ _ => exact po2.elim
theorem tUn_of {r : V → Hp → VK → Prop} {f : D → Option D} {da : DE} (hf : UnD K mg r f) (σ : L2.St) (H : Hp) (Q : VK) (h : tE K mg (dUn f da) Wx σ H Q) : tUn r (tE K mg da Wx) σ H Q := by
  obtain ⟨G, A, F, ρ, S, rel, rs, sep, po⟩ := h
  refine e_then rel rs sep po fun w S1 v H1 G1 A1 F1 x1 r1 z1 s1 rs1 sep1 f1 po1 => ?_
  cases z1 with
  | d q1 =>
    unfold ap1 at po1
    dsimp only at po1
    split at po1
    · rename_i z e
      exact hf r1 q1 e fun v' H' G' y ry rv => po1 v' H' G' A1 [] y ry (.d rv) .nil (fun _ m => nomatch m)
    · exact po1.elim
  | loc _ => exact po1.elim
  | own _ _ => exact po1.elim
theorem e_op {a b : Expr} {op : Operator} {pos : Pos} {r : R2} {f : D → D → Option D} {da db : DE} (ho : OpR X (binaryOp op) r) (hf : OpD X.K X.mg r f) (ha : JE X a da Wx) (hb : JE X b db Wx) : JE X (.BinOp a op b pos) (dOp f da db) Wx :=
  PE_imp (pe_op ho ha hb) (tOp_of hf)
theorem e_cmp {a b : Expr} {op : CmpOp} {pos : Pos} {r : R2} {f : D → D → Option D} {da db : DE} (ho : OpR X (compareOp op) r) (hf : OpD X.K X.mg r f) (ha : JE X a da Wx) (hb : JE X b db Wx) (hm : behindInMarks op b = false := by first | exact nomark _ | rfl) : JE X (.Compare a [op] [b] pos) (dOp f da db) Wx :=
  PE_imp (pe_cmpR ho ha hb hm) (tOp_of hf)
theorem e_un {a : Expr} {op : UnaryOp} {pos : Pos} {r : V → Hp → VK → Prop} {f : D → Option D} {da : DE} (ho : UnR X (unaryOp op) r) (hf : UnD X.K X.mg r f) (ha : JE X a da Wx) : JE X (.UnaryOp op a pos) (dUn f da) Wx :=
  PE_imp (pe_un ho ha) (tUn_of hf)
/-- two rules for one operator -/
theorem OpR.or2 {f : Value → Value → Sem Value} {r r' : R2} (h : OpR X f r) (h' : OpR X f r') : OpR X f (fun x y H Q => r x y H Q ∨ r' x y H Q) := by
  intro pins s σ H x y v u Q I rx ry q
  rcases q with q | q
  · exact h pins s σ H x y v u Q I rx ry q
  · exact h' pins s σ H x y v u Q I rx ry q
theorem Rel.nochange {H G : Hp} {A : List Addr} {S : Sto} {Q : VK} {v : V} {z : D} (rel : Rel K mg H G A S) (k : ∀ v' H' G', Ext H G A H' G' A → Rel K mg H' G' A S → RV K mg G' v' z → Q v' H') (r : RV K mg G v z) : Q v H := k v H G .refl rel r
theorem Rel.newLst {H G : Hp} {A : List Addr} {S : Sto} {Q : VK} {vs : List V} {ds : List D} (rel : Rel K mg H G A S) (k : ∀ v' H' G', Ext H G A H' G' A → Rel K mg H' G' A S → RV K mg G' v' (.lst ds) → Q v' H') (r : RVs K mg G vs ds) (p : Addr) (hp : H p = none) : Q (.ref p) (upd H p (.lst vs)) :=
  k _ _ (upd G p (.lst vs)) (.lay rel hp) (rel.lay hp) (.lst upd_same (r.mono (same_new (rel.ext.free hp))))
theorem Rel.newTup {H G : Hp} {A : List Addr} {S : Sto} {Q : VK} {vs : List V} {ds : List D} (rel : Rel K mg H G A S) (k : ∀ v' H' G', Ext H G A H' G' A → Rel K mg H' G' A S → RV K mg G' v' (.tup ds) → Q v' H') (r : RVs K mg G vs ds) (p : Addr) (hp : H p = none) : Q (.ref p) (upd H p (.tup vs)) :=
  k _ _ (upd G p (.tup vs)) (.lay rel hp) (rel.lay hp) (.tup (SqT.of upd_same) (r.mono (same_new (rel.ext.free hp))))
theorem RVs.len {G : Hp} : ∀ {vs : List V} {ds : List D}, RVs K mg G vs ds → vs.length = ds.length
  | _, _, .nil => rfl
  | _, _, .cons _ r => by simp [RVs.len r]
theorem RVs.app {G : Hp} : ∀ {vs us : List V} {ds es : List D}, RVs K mg G vs ds → RVs K mg G us es → RVs K mg G (vs ++ us) (ds ++ es)
  | _, _, _, _, .nil, q => q
  | _, _, _, _, .cons h r, q => .cons h (RVs.app r q)
theorem RVs.get {G : Hp} {i : Nat} {x : D} : ∀ {vs : List V} {ds : List D}, RVs K mg G vs ds → ds[i]? = some x → ∃ v, vs[i]? = some v ∧ RV K mg G v x := by
  induction i with
  | zero =>
    intro vs ds r h
    cases r with
    | nil => simp at h
    | cons h1 r => simp at h; subst h; exact ⟨_, by simp, h1⟩
  | succ i ih =>
    intro vs ds r h
    cases r with
    | nil => simp at h
    | cons h1 r =>
      obtain ⟨v, h2, h3⟩ := ih r (by simpa using h)
      exact ⟨v, by simpa using h2, h3⟩
theorem RVs.atI {G : Hp} {i : Int} {x : D} {vs : List V} {ds : List D} (r : RVs K mg G vs ds) (h : L2.atI ds i = some x) : ∃ v, L2.atI vs i = some v ∧ RV K mg G v x := by
  unfold L2.atI at h ⊢
  rw [r.len]
  cases e : ixN ds.length i with
  | none => rw [e] at h; cases h
  | some j =>
    rw [e] at h
    exact r.get (i := j) h
theorem RVs.rep {G : Hp} {vs : List V} {ds : List D} (r : RVs K mg G vs ds) (n : Nat) : RVs K mg G (List.replicate n vs).flatten (List.replicate n ds).flatten := by
  induction n with
  | zero => exact .nil
  | succ n ih => rw [List.replicate_succ, List.replicate_succ, List.flatten_cons, List.flatten_cons]; exact r.app ih
theorem RVs.drop {G : Hp} {vs : List V} {ds : List D} (r : RVs K mg G vs ds) (n : Nat) : RVs K mg G (vs.drop n) (ds.drop n) := by
  induction n generalizing vs ds with
  | zero => exact r
  | succ n ih =>
    cases r with
    | nil => exact .nil
    | cons _ r => exact ih r
theorem RVs.take {G : Hp} {vs : List V} {ds : List D} (r : RVs K mg G vs ds) (n : Nat) : RVs K mg G (vs.take n) (ds.take n) := by
  induction n generalizing vs ds with
  | zero => exact .nil
  | succ n ih =>
    cases r with
    | nil => exact .nil
    | cons h r => exact .cons h (ih r)
theorem RVs.snoc {G : Hp} {vs : List V} {ds : List D} {v : V} {x : D} (r : RVs K mg G vs ds) (h : RV K mg G v x) : RVs K mg G (vs ++ [v]) (ds ++ [x]) := r.app (.cons h .nil)
end
/-! ### arithmetic -/
def fAdd : D → D → Option D
  | .int i, .int j => some (.int (i + j))
  | .str a, .str b => if a.length + b.length ≤ sizeLine then some (.str (a ++ b)) else none
  | .lst a, .lst b => if a.length + b.length ≤ sizeLine then some (.lst (a ++ b)) else none
  | _, _ => none
def rAddA : R2 := fun x y H Q => (rI0 fun i j => .int (i + j)) x y H Q ∨ ((fun x y H Q => ∃ i j, x = .str i ∧ y = .str j ∧ i.length + j.length ≤ sizeLine ∧ Q (.str (i ++ j)) H) x y H Q ∨ rCat x y H Q)
def fSub : D → D → Option D
  | .int i, .int j => some (.int (i - j))
  | _, _ => none
def fMul : D → D → Option D
  | .int i, .int j => if i.natAbs.log2 + j.natAbs.log2 < 1000000 then some (.int (i * j)) else none
  | .lst a, .int k => if a.length * k.toNat ≤ sizeLine ∧ -(2 ^ 63) ≤ k ∧ k < 2 ^ 63 then some (.lst (List.replicate k.toNat a).flatten) else none
  | _, _ => none
def rMulA : R2 := fun x y H Q => rI CMulW (fun i j => .int (i * j)) x y H Q ∨ rRep x y H Q
def fDiv : D → D → Option D
  | .int i, .int j => if j ≠ 0 ∧ Builtin.divisionGoesByPylong i j = false then some (.int (i.fdiv j)) else none
  | _, _ => none
def fMod : D → D → Option D
  | .int i, .int j => if j ≠ 0 then some (.int (i.fmod j)) else none
  | _, _ => none
def fPow : D → D → Option D
  | .int i, .int j => if 0 ≤ j ∧ j ≤ 1000000 ∧ i.natAbs < 2 ^ 64 then some (.int (i ^ j.toNat)) else none
  | _, _ => none
def fNeg : D → Option D
  | .int i => some (.int (-i))
  | _ => none
def fLt : D → D → Option D
  | .int i, .int j => some (.bl (decide (i < j)))
  | _, _ => none
def fLe : D → D → Option D
  | .int i, .int j => some (.bl (decide (i ≤ j)))
  | _, _ => none
def fGt : D → D → Option D
  | .int i, .int j => some (.bl (decide (j < i)))
  | _, _ => none
def fGe : D → D → Option D
  | .int i, .int j => some (.bl (decide (j ≤ i)))
  | _, _ => none
section
variable {K : PySem.W.Frag} {mg : Str → Option Value} {X : Cx}
theorem od_add : OpD K mg rAddA fAdd := by
  intro v u x y z H G A S Q rel rx ry e k
  cases x <;> cases y <;> try (exact no_some e)
  case int.int i j =>
    cases rx; cases ry
    cases e
    exact .inl ⟨_, _, rfl, rfl, rel.nochange k (.int _)⟩
  case str.str a b =>
    cases rx; cases ry
    simp only [fAdd] at e
    split at e
    · rename_i hl
      cases e
      exact .inr (.inl ⟨_, _, rfl, rfl, hl, rel.nochange k (.str _)⟩)
    · cases e
  case lst.lst a b =>
    cases rx with
    | lst h1 r1 =>
      cases ry with
      | lst h2 r2 =>
        simp only [fAdd] at e
        split at e
        · rename_i hl
          cases e
          exact .inr (.inr ⟨_, _, _, _, rfl, rfl, rel.ext _ _ h1, rel.ext _ _ h2, by rw [r1.len, r2.len]; exact hl, rel.newLst k (r1.app r2)⟩)
        · cases e
theorem op_addA : OpR X (binaryOp .Add) rAddA := OpR.or2 op_add (OpR.or2 op_add_str op_cat)
theorem od_sub : OpD K mg (rI0 fun i j => .int (i - j)) fSub := by
  intro v u x y z H G A S Q rel rx ry e k
  cases x <;> cases y <;> try (exact no_some e)
  cases rx; cases ry
  cases e
  exact ⟨_, _, rfl, rfl, rel.nochange k (.int _)⟩
theorem od_mul : OpD K mg rMulA fMul := by
  intro v u x y z H G A S Q rel rx ry e k
  cases x <;> cases y <;> try (exact no_some e)
  case int.int i j =>
    cases rx; cases ry
    simp only [fMul] at e
    split at e
    · rename_i hl
      cases e
      exact .inl ⟨_, _, rfl, rfl, hl, rel.nochange k (.int _)⟩
    · cases e
  case lst.int a j =>
    cases rx with
    | lst h1 r1 =>
      cases ry
      simp only [fMul] at e
      split at e
      · rename_i hl
        cases e
        exact .inr ⟨_, _, _, rfl, rfl, rel.ext _ _ h1, hl.2.1, hl.2.2, by rw [r1.len]; exact hl.1, rel.newLst k (r1.rep _)⟩
      · cases e
theorem op_mulA : OpR X (binaryOp .Mult) rMulA := OpR.or2 op_mulW op_rep
theorem od_div : OpD K mg (rI (fun i j => j ≠ 0 ∧ Builtin.divisionGoesByPylong i j = false) fun i j => .int (i.fdiv j)) fDiv := by
  intro v u x y z H G A S Q rel rx ry e k
  cases x <;> cases y <;> try (exact no_some e)
  cases rx; cases ry
  simp only [fDiv] at e
  split at e
  · rename_i hl
    cases e
    exact ⟨_, _, rfl, rfl, hl, rel.nochange k (.int _)⟩
  · cases e
theorem op_divA : OpR X (binaryOp .FloorDiv) (rI (fun i j => j ≠ 0 ∧ Builtin.divisionGoesByPylong i j = false) fun i j => .int (i.fdiv j)) := by
  intro pins s σ H x y v u Q I rx ry ⟨i, j, e1, e2, hc, q⟩
  subst e1; subst e2
  obtain ⟨t, rfl⟩ := rx
  obtain ⟨t', rfl⟩ := ry
  exact PyProof.Rows.floordiv_int hc.1 ⟨.int _, H, I.tok _, ⟨_, rfl⟩, q⟩ (.inl hc.2)
theorem od_mod : OpD K mg (rI (fun _ j => j ≠ 0) fun i j => .int (i.fmod j)) fMod := by
  intro v u x y z H G A S Q rel rx ry e k
  cases x <;> cases y <;> try (exact no_some e)
  cases rx; cases ry
  simp only [fMod] at e
  split at e
  · rename_i hl
    cases e
    exact ⟨_, _, rfl, rfl, hl, rel.nochange k (.int _)⟩
  · cases e
theorem od_pow : OpD K mg (rI CPow fun i j => .int (i ^ j.toNat)) fPow := by
  intro v u x y z H G A S Q rel rx ry e k
  cases x <;> cases y <;> try (exact no_some e)
  cases rx; cases ry
  simp only [fPow] at e
  split at e
  · rename_i hl
    cases e
    exact ⟨_, _, rfl, rfl, hl, rel.nochange k (.int _)⟩
  · cases e
theorem od_lt : OpD K mg (rI0 fun i j => .bl (decide (i < j))) fLt := by
  intro v u x y z H G A S Q rel rx ry e k
  cases x <;> cases y <;> try (exact no_some e)
  cases rx; cases ry
  cases e
  exact ⟨_, _, rfl, rfl, rel.nochange k (.bl _)⟩
theorem od_le : OpD K mg (rI0 fun i j => .bl (decide (i ≤ j))) fLe := by
  intro v u x y z H G A S Q rel rx ry e k
  cases x <;> cases y <;> try (exact no_some e)
  cases rx; cases ry
  cases e
  exact ⟨_, _, rfl, rfl, rel.nochange k (.bl _)⟩
theorem od_gt : OpD K mg (rI0 fun i j => .bl (decide (j < i))) fGt := by
  intro v u x y z H G A S Q rel rx ry e k
  cases x <;> cases y <;> try (exact no_some e)
  cases rx; cases ry
  cases e
  exact ⟨_, _, rfl, rfl, rel.nochange k (.bl _)⟩
theorem od_ge : OpD K mg (rI0 fun i j => .bl (decide (j ≤ i))) fGe := by
  intro v u x y z H G A S Q rel rx ry e k
  cases x <;> cases y <;> try (exact no_some e)
  cases rx; cases ry
  cases e
  exact ⟨_, _, rfl, rfl, rel.nochange k (.bl _)⟩
theorem ud_neg : UnD K mg (rU fun i => .int (-i)) fNeg := by
  intro v x z H G A S Q rel rx e k
  cases x <;> try (exact no_some e)
  cases rx
  cases e
  exact ⟨_, rfl, rel.nochange k (.int _)⟩
end
/-! ### equality of data -/
mutual
def py : D → PyData
  | .non => .none
  | .bl b => .bool b
  | .int i => .int i
  | .str x => .str x
  | .lst xs => .list (pys xs)
  | .frz xs => .list (pys xs)
  | .tup xs => .tuple (pys xs)
  | .ins _ _ => .none
  | .fn _ => .none
  | .exc _ _ _ _ => .none
def pys : List D → List PyData
  | [] => []
  | x :: r => py x :: pys r
end
mutual
def plain : D → Bool
  | .lst xs => plains xs
  | .frz xs => plains xs
  | .tup xs => plains xs
  | .ins _ _ => false
  | .fn _ => false
  | .exc _ _ _ _ => false
  | _ => true
def plains : List D → Bool
  | [] => true
  | x :: r => plain x && plains r
end
def okD (x : D) : Bool := plain x && SeqAt.shaped (py x)
def eqD (x y : D) : Bool := PyData.eqv (py x) (py y)
def fEq (x y : D) : Option D := if okD x = true ∧ okD y = true then some (.bl (eqD x y)) else none
def fNe (x y : D) : Option D := if okD x = true ∧ okD y = true then some (.bl (!eqD x y)) else none
def fIsN (x y : D) : Option D := match y, x with
  | .non, .non => some (.bl true)
  | .non, _ => some (.bl false)
  | _, _ => none
def fNotN (x y : D) : Option D := match y, x with
  | .non, .non => some (.bl false)
  | .non, _ => some (.bl true)
  | _, _ => none
section
variable {K : PySem.W.Frag} {mg : Str → Option Value} {X : Cx}
mutual
theorem RV.dp {H G : Hp} (e : Same G H) : ∀ {x : D} {v : V}, RV K mg G v x → plain x = true → Dp K H v (py x)
  | .non, _, h, _ => by cases h; exact .non
  | .bl _, _, h, _ => by cases h; exact .bl _
  | .int _, _, h, _ => by cases h; exact .int _
  | .str _, _, h, _ => by cases h; exact .str _
  | .lst _, _, h, p => by
    cases h with
    | lst h r => exact .lst (SqL.of (e _ _ h)) (RVs.dp e r p)
  | .frz _, _, h, p => by
    cases h with
    | frz h r => exact .lst (e.seq h) (RVs.dp e r p)
  | .tup _, _, h, p => by
    cases h with
    | tup h r =>
      refine .tup ?_ (RVs.dp e r p)
      rcases h with (h | ⟨o, h⟩) | h
      · exact .inl (.inl (e _ _ h))
      · exact .inl (.inr ⟨o, e _ _ h⟩)
      · exact .inr h
  | .ins _ _, _, _, p => by cases p
  | .fn _, _, _, p => by cases p
  | .exc _ _ _ _, _, _, p => by cases p
theorem RVs.dp {H G : Hp} (e : Same G H) : ∀ {x : List D} {v : List V}, RVs K mg G v x → plains x = true → DpAll K H v (pys x)
  | [], _, h, _ => by cases h; exact .nil
  | _ :: _, _, h, p => by
    cases h with
    | cons h r =>
      have p' := Bool.and_eq_true_iff.mp (show (plain _ && plains _) = true from p)
      exact .cons (RV.dp e h p'.1) (RVs.dp e r p'.2)
end
theorem od_eq : OpD K mg (rEqD K) fEq := by
  intro v u x y z H G A S Q rel rx ry e k
  unfold fEq at e
  split at e
  · rename_i h
    cases e
    have h1 := Bool.and_eq_true_iff.mp h.1
    have h2 := Bool.and_eq_true_iff.mp h.2
    exact ⟨_, _, rx.dp rel.ext h1.1, ry.dp rel.ext h2.1, h1.2, h2.2, rel.nochange k (.bl _)⟩
  · cases e
theorem od_ne : OpD K mg (rNeD K) fNe := by
  intro v u x y z H G A S Q rel rx ry e k
  unfold fNe at e
  split at e
  · rename_i h
    cases e
    have h1 := Bool.and_eq_true_iff.mp h.1
    have h2 := Bool.and_eq_true_iff.mp h.2
    exact ⟨_, _, rx.dp rel.ext h1.1, ry.dp rel.ext h2.1, h1.2, h2.2, rel.nochange k (.bl _)⟩
  · cases e
theorem RV.non_iff {G : Hp} {v : V} {x : D} (r : RV K mg G v x) : (v = .non ↔ x = .non) := by
  cases r <;> simp
theorem od_isN : OpD K mg (fun x y H Q => y = .non ∧ Q (.bl (decide (x = .non))) H) fIsN := by
  intro v u x y z H G A S Q rel rx ry e k
  unfold fIsN at e
  split at e
  · cases e; cases ry; cases rx; exact ⟨rfl, rel.nochange k (.bl _)⟩
  · rename_i hx
    cases e
    cases ry
    refine ⟨rfl, ?_⟩
    have hn : ¬ v = .non := fun q => hx (rx.non_iff.mp q)
    rw [decide_eq_false hn]
    exact rel.nochange k (.bl _)
  · cases e
theorem od_notN : OpD K mg (fun x y H Q => y = .non ∧ Q (.bl (!decide (x = .non))) H) fNotN := by
  intro v u x y z H G A S Q rel rx ry e k
  unfold fNotN at e
  split at e
  · cases e; cases ry; cases rx; exact ⟨rfl, rel.nochange k (.bl _)⟩
  · rename_i hx
    cases e
    cases ry
    refine ⟨rfl, ?_⟩
    have hn : ¬ v = .non := fun q => hx (rx.non_iff.mp q)
    rw [decide_eq_false hn]
    exact rel.nochange k (.bl _)
  · cases e
end
end DL

set_option Elab.async false
set_option linter.all false
set_option maxRecDepth 100000
set_option maxHeartbeats 2000000
namespace DL
open PySem L2
/-! ### tests -/
def tst : W → Sto → Out Bool
  | .d (.bl b), S => .ok b S
  | _, _ => .bad
def dTst (a : DE) : DT := fun ρ S => (a ρ S).bind tst
def truD : W → Sto → Out Bool
  | .d .non, S => .ok false S
  | .d (.bl b), S => .ok b S
  | .d (.int i), S => .ok (i != 0) S
  | .d (.lst xs), S => .ok (!xs.isEmpty) S
  | .d (.tup xs), S => .ok (!xs.isEmpty) S
  | _, _ => .bad
def dTru (a : DE) : DT := fun ρ S => (a ρ S).bind truD
def dAnd (a b : DT) : DT := fun ρ S => (a ρ S).bind fun c S1 => if c = true then b ρ S1 else .ok false S1
def dOr (a b : DT) : DT := fun ρ S => (a ρ S).bind fun c S1 => if c = true then .ok true S1 else b ρ S1
def dNot (a : DT) : DT := fun ρ S => (a ρ S).bind fun c S1 => .ok (!c) S1
/-- .. as values -/
def dAndV (a b : DE) : DE := fun ρ S => (a ρ S).bind fun w S1 => (tst w S1).bind fun c S2 => if c = true then b ρ S2 else .ok (.d (.bl false)) S2
def dOrV (a b : DE) : DE := fun ρ S => (a ρ S).bind fun w S1 => (tst w S1).bind fun c S2 => if c = true then .ok (.d (.bl true)) S2 else b ρ S2
def dNotV (a : DE) : DE := fun ρ S => (a ρ S).bind fun w S1 => (tst w S1).bind fun c S2 => .ok (.d (.bl (!c))) S2
def dIf (t : DT) (a b : DE) : DE := fun ρ S => (t ρ S).bind fun c S1 => if c = true then a ρ S1 else b ρ S1
def dChain (f g : D → D → Option D) (a b c : DE) : DE := fun ρ S => (a ρ S).bind fun x S1 => (b ρ S1).bind fun y S2 => (ap2 f x y S2).bind fun w S3 => (tst w S3).bind fun k S4 =>
  if k = true then (c ρ S4).bind fun z S5 => ap2 g y z S5 else .ok (.d (.bl false)) S4
section
variable {K : PySem.W.Frag} {mg : Str → Option Value} {X : Cx} {Wx : WX} {σ : L2.St} {H : Hp}
theorem tst_v {G : Hp} {A : List Addr} {H : Hp} {v : V} {w : W} {F : List Addr} {S : Sto} (r : RW K mg H G A v w F) (h : tst w S ≠ .bad) : ∃ b, v = .bl b ∧ w = .d (.bl b) := by
  unfold tst at h
  split at h
  · cases r with
    | d r => cases r; exact ⟨_, rfl, rfl⟩
  · exact absurd rfl h
theorem PostT.nb {H G : Hp} {A : List Addr} {E : XK} {Q : Bool → Hp → Prop} {o : Out Bool} (h : PostT K mg H G A E Q o) : o ≠ .bad := fun e => by rw [e] at h; exact h
theorem PostE.nb {H G : Hp} {A : List Addr} {E : XK} {Q : VK} {o : Out W} (h : PostE K mg H G A E Q o) : o ≠ .bad := fun e => by rw [e] at h; exact h
theorem PostE.nbind {α : Type} {H G : Hp} {A : List Addr} {E : XK} {Q : VK} {o : Out α} {f : α → Sto → Out W} (h : PostE K mg H G A E Q (o.bind f)) : o ≠ .bad := fun e => by rw [e] at h; exact h
theorem tB_of {da : DE} {Q : Bool → Hp → Prop} (h : tT K mg (dTst da) Wx σ H Q) : tE K mg da Wx σ H fun x H1 => ∃ c, x = .bl c ∧ Q c H1 := by
  obtain ⟨G, A, F, ρ, S, rel, rs, sep, po⟩ := h
  refine e_thenT rel rs sep po fun w S1 v H1 G1 A1 F1 x1 r1 z1 s1 rs1 sep1 f1 po1 => ?_
  obtain ⟨b, rfl, rfl⟩ := tst_v z1 po1.nb
  exact ⟨b, rfl, po1 H1 G1 A1 .refl r1⟩
theorem t_val {e : Expr} {da : DE} (h : JE X e da Wx) (he : ∀ whole, isTrue e X.env whole = (do let v ← whole; standAt e.pos; holding [v] (truthy v)) := by intro _; rfl) : JT X e (dTst da) Wx := PT_imp (pt_val h he) fun σ H Q q => tB_of q
theorem t_cmp {a b : Expr} {op : CmpOp} {pos : Pos} {r : R2} {f : D → D → Option D} {da db : DE} (ho : OpR X (compareOp op) r) (hf : OpD X.K X.mg r f) (ha : JE X a da Wx) (hb : JE X b db Wx) (hm : behindInMarks op b = false := by first | exact nomark _ | rfl) : JT X (.Compare a [op] [b] pos) (dTst (dOp f da db)) Wx :=
  PT_imp (pt_cmpR ho ha hb hm) fun σ H Q q => tOp_of hf σ H _ (tB_of q)
theorem sqT_mono {G H : Hp} {a : Addr} {xs : List V} (e : Same G H) (h1 : SqT K G a xs) : SqT K H a xs := by
  rcases h1 with (h1 | ⟨o, h1⟩) | h1
  · exact .inl (.inl (e _ _ h1))
  · exact .inl (.inr ⟨o, e _ _ h1⟩)
  · exact .inr h1
theorem tru_v {G : Hp} {A : List Addr} {H : Hp} {v : V} {w : W} {F : List Addr} {S S' : Sto} {b : Bool} (e : Same G H) (r : RW K mg H G A v w F) (h : truD w S = .ok b S') : TruV K v H b ∧ S' = S := by
  unfold truD at h
  split at h
  · cases r with
    | d r => cases r; cases h; exact ⟨rfl, rfl⟩
  · cases r with
    | d r => cases r; cases h; exact ⟨rfl, rfl⟩
  · cases r with
    | d r => cases r; cases h; exact ⟨rfl, rfl⟩
  · cases r with
    | d r =>
      cases r with
      | lst h1 h2 =>
        cases h
        refine ⟨.inl ⟨_, SqL.of (e _ _ h1), ?_⟩, rfl⟩
        cases h2 <;> rfl
  · cases r with
    | d r =>
      cases r with
      | tup h1 h2 =>
        cases h
        refine ⟨.inr (.inl ⟨_, sqT_mono e h1, ?_⟩), rfl⟩
        cases h2 <;> rfl
  · cases h
theorem truD_ex {w : W} {S : Sto} : ∀ e S', truD w S ≠ .ex e S' := by
  intro e S' h
  unfold truD at h
  split at h <;> cases h
theorem t_tru {e : Expr} {da : DE} (h : JE X e da Wx) (he : ∀ whole, isTrue e X.env whole = (do let v ← whole; standAt e.pos; holding [v] (truthy v)) := by intro _; rfl) : JT X e (dTru da) Wx := by
  refine PT_imp (pt_truth h he) ?_
  rintro σ H Q ⟨G, A, F, ρ, S, rel, rs, sep, po⟩
  refine e_thenT rel rs sep po fun w S1 v H1 G1 A1 F1 x1 r1 z1 s1 rs1 sep1 f1 po1 => ?_
  cases e' : truD w S1 with
  | bad => rw [e'] at po1; exact po1.elim
  | ex x S' => exact absurd e' (truD_ex x S')
  | ok b S' =>
    obtain ⟨h1, h2⟩ := tru_v r1.ext z1 e'
    subst h2
    rw [e'] at po1
    exact ⟨b, h1, po1 H1 G1 A1 .refl r1⟩
theorem w_and1 {a : Expr} {pos : Pos} {da : DT} (ha : JT X a da Wx) : JW X (.BoolOp .And [a] pos) da Wx := pw_and1 ha
theorem w_or1 {a : Expr} {pos : Pos} {da : DT} (ha : JT X a da Wx) : JW X (.BoolOp .Or [a] pos) da Wx := pw_or1 ha
theorem w_and {a b : Expr} {rest : List Expr} {pos : Pos} {da db : DT} (ha : JT X a da Wx) (hb : JW X (.BoolOp .And (b :: rest) pos) db Wx) : JW X (.BoolOp .And (a :: b :: rest) pos) (dAnd da db) Wx := by
  refine PW_imp (pw_and ha hb) ?_
  rintro σ H Q ⟨G, A, F, ρ, S, rel, rs, sep, po⟩
  refine t_thenT rel rs sep po fun w S1 H1 G1 A1 x1 r1 rs1 sep1 po1 => ?_
  cases w with
  | true => exact ⟨G1, A1, F, ρ, S1, r1, rs1, sep1, po1⟩
  | false => exact po1 H1 G1 A1 .refl r1
theorem w_or {a b : Expr} {rest : List Expr} {pos : Pos} {da db : DT} (ha : JT X a da Wx) (hb : JW X (.BoolOp .Or (b :: rest) pos) db Wx) : JW X (.BoolOp .Or (a :: b :: rest) pos) (dOr da db) Wx := by
  refine PW_imp (pw_or ha hb) ?_
  rintro σ H Q ⟨G, A, F, ρ, S, rel, rs, sep, po⟩
  refine t_thenT rel rs sep po fun w S1 H1 G1 A1 x1 r1 rs1 sep1 po1 => ?_
  cases w with
  | true => exact po1 H1 G1 A1 .refl r1
  | false => exact ⟨G1, A1, F, ρ, S1, r1, rs1, sep1, po1⟩
theorem t_w {e : Expr} {d : DT} (h : JW X e d Wx) : JT X e d Wx := h.pt
theorem t_not {a : Expr} {pos : Pos} {da : DT} (ha : JT X a da Wx) : JT X (.UnaryOp .Not a pos) (dNot da) Wx := by
  refine PT_imp (pt_not ha) ?_
  rintro σ H Q ⟨G, A, F, ρ, S, rel, rs, sep, po⟩
  exact t_thenT rel rs sep po fun w S1 H1 G1 A1 x1 r1 rs1 sep1 po1 => po1 H1 G1 A1 .refl r1
theorem e_one {op} {a : Expr} {pos : Pos} {da : DE} (h : JE X a da Wx) : JE X (.BoolOp op [a] pos) da Wx := pe_one h
theorem tst_ok {w : W} {S S' : Sto} {c : Bool} (h : tst w S = .ok c S') : w = .d (.bl c) ∧ S' = S := by
  unfold tst at h
  split at h
  · cases h; exact ⟨rfl, rfl⟩
  · cases h
theorem tst_ex {w : W} {S : Sto} : ∀ e S', tst w S ≠ .ex e S' := by
  intro e S' h
  unfold tst at h
  split at h <;> cases h
/-- behind a value that is asked for its truth -/
theorem tst_post {H G : Hp} {A F : List Addr} {E : XK} {Q : VK} {w : W} {v : V} {S : Sto} {k : Bool → Sto → Out W} (r : RW K mg H G A v w F) (po : PostE K mg H G A E Q ((tst w S).bind k)) : ∃ c, v = .bl c ∧ PostE K mg H G A E Q (k c S) := by
  cases e : tst w S with
  | bad => rw [e] at po; exact po.elim
  | ex x S' => exact absurd e (tst_ex x S')
  | ok c S' =>
    obtain ⟨h1, h2⟩ := tst_ok e
    subst h1 h2
    cases r with
    | d r =>
      cases r
      rw [e] at po
      exact ⟨c, rfl, po⟩
theorem e_and {a b : Expr} {rest : List Expr} {pos : Pos} {da db : DE} (ha : JE X a da Wx) (hb : JE X (.BoolOp .And (b :: rest) pos) db Wx) : JE X (.BoolOp .And (a :: b :: rest) pos) (dAndV da db) Wx := by
  refine PE_imp (pe_and ha hb) ?_
  rintro σ H Q ⟨G, A, F, ρ, S, rel, rs, sep, po⟩
  refine e_then rel rs sep po fun w S1 v H1 G1 A1 F1 x1 r1 z1 s1 rs1 sep1 f1 po1 => ?_
  obtain ⟨c, rfl, po2⟩ := tst_post z1 po1
  refine ⟨c, rfl, ?_⟩
  cases c with
  | true => exact ⟨G1, A1, F, ρ, S1, r1, rs1, sep1, po2⟩
  | false => exact po2 _ H1 G1 A1 [] .refl r1 (.d (.bl _)) .nil (fun _ m => nomatch m)
theorem e_or {a b : Expr} {rest : List Expr} {pos : Pos} {da db : DE} (ha : JE X a da Wx) (hb : JE X (.BoolOp .Or (b :: rest) pos) db Wx) : JE X (.BoolOp .Or (a :: b :: rest) pos) (dOrV da db) Wx := by
  refine PE_imp (pe_or ha hb) ?_
  rintro σ H Q ⟨G, A, F, ρ, S, rel, rs, sep, po⟩
  refine e_then rel rs sep po fun w S1 v H1 G1 A1 F1 x1 r1 z1 s1 rs1 sep1 f1 po1 => ?_
  obtain ⟨c, rfl, po2⟩ := tst_post z1 po1
  refine ⟨c, rfl, ?_⟩
  cases c with
  | true => exact po2 _ H1 G1 A1 [] .refl r1 (.d (.bl _)) .nil (fun _ m => nomatch m)
  | false => exact ⟨G1, A1, F, ρ, S1, r1, rs1, sep1, po2⟩
theorem e_not {a : Expr} {pos : Pos} {da : DE} (ha : JE X a da Wx) : JE X (.UnaryOp .Not a pos) (dNotV da) Wx := by
  refine PE_imp (pe_not ha) ?_
  rintro σ H Q ⟨G, A, F, ρ, S, rel, rs, sep, po⟩
  refine e_then rel rs sep po fun w S1 v H1 G1 A1 F1 x1 r1 z1 s1 rs1 sep1 f1 po1 => ?_
  obtain ⟨c, rfl, po2⟩ := tst_post z1 po1
  exact ⟨c, rfl, po2 _ H1 G1 A1 [] .refl r1 (.d (.bl _)) .nil (fun _ m => nomatch m)⟩
theorem e_if {c a b : Expr} {pos : Pos} {dt : DT} {da db : DE} (hc : JT X c dt Wx) (ha : JE X a da Wx) (hb : JE X b db Wx) : JE X (.IfExp c a b pos) (dIf dt da db) Wx := by
  refine PE_imp (pe_ifExp hc ha hb) ?_
  rintro σ H Q ⟨G, A, F, ρ, S, rel, rs, sep, po⟩
  refine t_then rel rs sep po fun w S1 H1 G1 A1 x1 r1 rs1 sep1 po1 => ?_
  cases w with
  | true => exact ⟨G1, A1, F, ρ, S1, r1, rs1, sep1, po1⟩
  | false => exact ⟨G1, A1, F, ρ, S1, r1, rs1, sep1, po1⟩
/-- by values: a two-place operation behind its operands -/
theorem ap2_post {H G : Hp} {A F F' : List Addr} {E : XK} {Q : VK} {w w' : W} {v v' : V} {S : Sto} {f : D → D → Option D} {r : R2} {k : W → Sto → Out W} {R : VK} (hf : OpD K mg r f) (rel : Rel K mg H G A S) (z : RW K mg H G A v w F) (z' : RW K mg H G A v' w' F') (po : PostE K mg H G A E Q ((ap2 f w w' S).bind k))
    (h : ∀ u x H1 G1, Ext H G A H1 G1 A → Rel K mg H1 G1 A S → RV K mg G1 u x → PostE K mg H1 G1 A E Q (k (.d x) S) → R u H1) : r v v' H R := by
  cases z with
  | d q1 =>
    cases z' with
    | d q2 =>
      unfold ap2 at po
      dsimp only at po
      split at po
      · rename_i y e
        exact hf rel q1 q2 e fun u H1 G1 x r1 rv => h u y H1 G1 x r1 rv (PostE.later x po)
      · exact po.elim
    | loc _ => exact po.elim
    | own _ _ => exact po.elim
  | loc _ => exact po.elim
  | own _ _ => exact po.elim
theorem bind_self {o : Out W} : o.bind .ok = o := by cases o <;> rfl
theorem tChain_of {r r' : R2} {f g : D → D → Option D} {da db dc : DE} {Q : VK} (hf : OpD K mg r f) (hg : OpD K mg r' g) (h : tE K mg (dChain f g da db dc) Wx σ H Q) : tChain r r' (tE K mg da Wx) (tE K mg db Wx) (tE K mg dc Wx) σ H Q := by
  obtain ⟨G, A, F, ρ, S, rel, rs, sep, po⟩ := h
  refine e_then rel rs sep po fun w S1 v H1 G1 A1 F1 x1 r1 z1 s1 rs1 sep1 f1 po1 => ?_
  refine e_then r1 rs1 sep1 po1 fun w2 S2 u H2 G2 A2 F2 x2 r2 z2 s2 rs2 sep2 f2 po2 => ?_
  refine ap2_post hf r2 (x2.rw z1 s1) z2 po2 fun u3 d3 H3 G3 x3 r3 rv3 po3 => ?_
  obtain ⟨c, rfl, po4⟩ := tst_post (RW.d (H := H3) (A := A2) rv3) po3
  refine ⟨c, rfl, ?_⟩
  cases c with
  | false => exact po4 _ H3 G3 A2 [] .refl r3 (.d (.bl _)) .nil (fun _ m => nomatch m)
  | true =>
    refine e_then r3 (x3.rs rs2 sep2) (x3.sep sep2 rs2.there) po4 fun w5 S5 u5 H5 G5 A5 F5 x5 r5 z5 s5 rs5 sep5 f5 po5 => ?_
    rw [← bind_self (o := ap2 g _ _ _)] at po5
    exact ap2_post hg r5 (x5.rw (x3.rw z2 s2) (x3.sep s2 z2.there)) z5 po5 fun u6 d6 H6 G6 x6 r6 rv6 po6 => po6 _ H6 G6 A5 [] .refl r6 (.d rv6) .nil (fun _ m => nomatch m)
theorem e_chain {a b c : Expr} {op op' : CmpOp} {pos : Pos} {r r' : R2} {f g : D → D → Option D} {da db dc : DE} (ho : OpR X (compareOp op) r) (ho' : OpR X (compareOp op') r') (hf : OpD X.K X.mg r f) (hg : OpD X.K X.mg r' g) (ha : JE X a da Wx) (hb : JE X b db Wx) (hc : JE X c dc Wx)
    (hm : lastMarks [op, op'] [b, c] = false := by with_unfolding_all rfl) : JE X (.Compare a [op, op'] [b, c] pos) (dChain f g da db dc) Wx :=
  PE_imp (pe_chain ho ho' ha hb hc hm) fun σ H Q q => tChain_of hf hg q
theorem t_chain {a b c : Expr} {op op' : CmpOp} {pos : Pos} {r r' : R2} {f g : D → D → Option D} {da db dc : DE} (ho : OpR X (compareOp op) r) (ho' : OpR X (compareOp op') r') (hf : OpD X.K X.mg r f) (hg : OpD X.K X.mg r' g) (ha : JE X a da Wx) (hb : JE X b db Wx) (hc : JE X c dc Wx)
    (hm : lastMarks [op, op'] [b, c] = false := by with_unfolding_all rfl) : JT X (.Compare a [op, op'] [b, c] pos) (dTst (dChain f g da db dc)) Wx :=
  PT_imp (pt_chain ho ho' ha hb hc hm) fun σ H Q q => tChain_of hf hg (tB_of q)
end
end DL

set_option Elab.async false
set_option linter.all false
set_option maxRecDepth 100000
set_option maxHeartbeats 2000000
namespace DL
open PySem L2
/-! ### subscripts -/
def ixW : W → W → Sto → Option W
  | .d (.lst xs), .d (.int i), _ => (atI xs i).map .d
  | .d (.frz xs), .d (.int i), _ => (atI xs i).map .d
  | .d (.tup xs), .d (.int i), _ => (atI xs i).map .d
  | .d (.str z), .d (.int i), _ => if z.length ≤ sizeLine then (atI z.cps.toList i).map fun c => .d (.str ⟨#[c]⟩) else none
  | .loc n, .d (.int i), S => match S[n]? with
    | some (.lst ws) => atI ws i
    | _ => none
  | _, _, _ => none
def okW (o : Option W) (S : Sto) : Out W := match o with
  | some w => stab w S
  | none => .bad
def dIx (a b : DE) : DE := fun ρ S => (a ρ S).bind fun x S1 => (b ρ S1).bind fun y S2 => okW (ixW x y S2) S2
/-- an item of the list that slot i owns -/
def ixO (ws : List W) : W → Sto → Out W
  | .d (.int j), S => okW (atI ws j) S
  | _, _ => .bad
def dIxO (i : Nat) (b : DE) : DE := fun ρ S => match ρ[i]? with
  | some (some (.own ws)) => (b ρ S).bind (ixO ws)
  | _ => .bad
section
variable {K : PySem.W.Frag} {mg : Str → Option Value} {X : Cx} {Wx : WX} {σ : L2.St} {H : Hp}
theorem RLs.get {G : Hp} {A : List Addr} {i : Nat} {w : W} : ∀ {vs : List V} {ws : List W}, RLs K mg G A vs ws → ws[i]? = some w → ∃ v, vs[i]? = some v ∧ RL K mg G A v w := by
  induction i with
  | zero =>
    intro vs ws r h
    cases r with
    | nil => simp at h
    | cons h1 r => simp at h; subst h; exact ⟨_, by simp, h1⟩
  | succ i ih =>
    intro vs ws r h
    cases r with
    | nil => simp at h
    | cons h1 r =>
      obtain ⟨v, h2, h3⟩ := ih r (by simpa using h)
      exact ⟨v, by simpa using h2, h3⟩
theorem RLs.atI {G : Hp} {A : List Addr} {i : Int} {w : W} {vs : List V} {ws : List W} (r : RLs K mg G A vs ws) (h : L2.atI ws i = some w) : ∃ v, L2.atI vs i = some v ∧ RL K mg G A v w := by
  unfold L2.atI at h ⊢
  rw [Paired.length r]
  cases e : ixN ws.length i with
  | none => rw [e] at h; cases h
  | some j =>
    rw [e] at h
    exact RLs.get (i := j) r h
theorem RL.rw {H G : Hp} {A : List Addr} {v : V} {w : W} (r : RL K mg G A v w) : RW K mg H G A v w [] := by
  cases r with
  | d h => exact .d h
  | loc h => exact .loc h
theorem okW_post {H G : Hp} {A F : List Addr} {E : XK} {Q : VK} {w : W} {v : V} {S : Sto} (rel : Rel K mg H G A S) (r : RW K mg H G A v w F) (po : PostE K mg H G A E Q (okW (some w) S)) : Q v H := by
  cases r with
  | d r => exact po v H G A [] .refl rel (.d r) .nil (fun _ m => nomatch m)
  | loc r => exact po _ H G A [] .refl rel (.loc r) .nil (fun _ m => nomatch m)
  | own _ _ => exact po.elim
theorem ixW_ok {H G : Hp} {A F F' : List Addr} {E : XK} {Q : VK} {w w' : W} {v v' : V} {S : Sto} (rel : Rel K mg H G A S) (r : RW K mg H G A v w F) (r' : RW K mg H G A v' w' F') (po : PostE K mg H G A E Q (okW (ixW w w' S) S)) : rIx K v v' H Q := by
  cases e : ixW w w' S with
  | none => rw [e] at po; exact po.elim
  | some u =>
    rw [e] at po
    unfold ixW at e
    split at e
    · cases r with
      | d r => cases r' with
        | d r' =>
          cases r'
          cases r with
          | lst h1 h2 =>
            obtain ⟨x, hx, rfl⟩ := Option.map_eq_some_iff.mp e
            obtain ⟨y, hy, ry⟩ := h2.atI hx
            exact .inl ⟨_, _, _, _, rfl, rfl, SqL.of (rel.ext _ _ h1), hy, okW_post (F := []) rel (.d ry) po⟩
    · cases r with
      | d r => cases r' with
        | d r' =>
          cases r'
          cases r with
          | frz h1 h2 =>
            obtain ⟨x, hx, rfl⟩ := Option.map_eq_some_iff.mp e
            obtain ⟨y, hy, ry⟩ := h2.atI hx
            exact .inl ⟨_, _, _, _, rfl, rfl, rel.ext.seq h1, hy, okW_post (F := []) rel (.d ry) po⟩
    · cases r with
      | d r => cases r' with
        | d r' =>
          cases r'
          cases r with
          | tup h1 h2 =>
            obtain ⟨x, hx, rfl⟩ := Option.map_eq_some_iff.mp e
            obtain ⟨y, hy, ry⟩ := h2.atI hx
            exact .inr (.inl ⟨_, _, _, _, rfl, rfl, sqT_mono rel.ext h1, hy, okW_post (F := []) rel (.d ry) po⟩)
    · split at e
      · rename_i hz
        cases r with
        | d r => cases r' with
          | d r' =>
            cases r'; cases r
            obtain ⟨c, hc, rfl⟩ := Option.map_eq_some_iff.mp e
            exact .inr (.inr ⟨_, _, _, rfl, rfl, hz, hc, okW_post (F := []) rel (.d (.str _)) po⟩)
      · cases e
    · split at e
      · rename_i ws hc
        cases r with
        | loc h1 => cases r' with
          | d r' =>
            cases r'
            obtain ⟨vs, h2, h3⟩ := rel.cell _ _ _ h1 hc
            obtain ⟨y, hy, ry⟩ := h3.atI e
            exact .inl ⟨_, _, _, _, rfl, rfl, SqL.of h2, hy, okW_post rel ry.rw po⟩
      · cases e
    · cases e
theorem e_ix {a b : Expr} {pos : Pos} {da db : DE} (ha : JE X a da Wx) (hb : JE X b db Wx) (hs : PlainIx b := by exact fun _ _ => rfl) : JE X (.Subscript a b pos) (dIx da db) Wx := by
  refine PE_imp (pe_ix ix_seq ha hb hs) ?_
  rintro σ H Q ⟨G, A, F, ρ, S, rel, rs, sep, po⟩
  refine e_then rel rs sep po fun w S1 v H1 G1 A1 F1 x1 r1 z1 s1 rs1 sep1 f1 po1 => ?_
  refine e_then r1 rs1 sep1 po1 fun w2 S2 u H2 G2 A2 F2 x2 r2 z2 s2 rs2 sep2 f2 po2 => ?_
  exact ixW_ok r2 (x2.rw z1 s1) z2 po2
theorem RWs.get {H G : Hp} {A : List Addr} {i : Nat} {w : W} : ∀ {vs : List V} {ws : List W} {F : List Addr}, RWs K mg H G A vs ws F → ws[i]? = some w → ∃ v F1, vs[i]? = some v ∧ RW K mg H G A v w F1 ∧ ∀ a ∈ F1, a ∈ F := by
  induction i with
  | zero =>
    intro vs ws F r h
    cases r with
    | nil => simp at h
    | cons h1 r => simp at h; subst h; exact ⟨_, _, by simp, h1, fun a m => List.mem_append_left _ m⟩
  | succ i ih =>
    intro vs ws F r h
    cases r with
    | nil => simp at h
    | cons h1 r =>
      obtain ⟨v, F1, h2, h3, h4⟩ := ih r (by simpa using h)
      exact ⟨v, F1, by simpa using h2, h3, fun a m => List.mem_append_right _ (h4 a m)⟩
theorem RWs.len {H G : Hp} {A : List Addr} : ∀ {vs : List V} {ws : List W} {F : List Addr}, RWs K mg H G A vs ws F → vs.length = ws.length
  | _, _, _, .nil => rfl
  | _, _, _, .cons _ r => by simp [RWs.len r]
theorem RWs.atI {H G : Hp} {A : List Addr} {i : Int} {w : W} {vs : List V} {ws : List W} {F : List Addr} (r : RWs K mg H G A vs ws F) (h : L2.atI ws i = some w) : ∃ v F1, L2.atI vs i = some v ∧ RW K mg H G A v w F1 ∧ ∀ a ∈ F1, a ∈ F := by
  unfold L2.atI at h ⊢
  rw [r.len]
  cases e : ixN ws.length i with
  | none => rw [e] at h; cases h
  | some j =>
    rw [e] at h
    exact RWs.get (i := j) r h
theorem e_ixO {i : Nat} {x : Str} {b : Expr} {pos p2 : Pos} {db : DE} (hb : JE X b db Wx) (hN : X.N[i]? = some x := by rfl) (hv : Vis X.env.scope x := by first | exact Or.inl rfl | exact Or.inr (Or.inl rfl) | exact Or.inr (Or.inr rfl)) (hd : (x == ("__debug__" : Str)) = false := by decide)
    (hcd : (x == ("__classdict__" : Str)) = false := by decide) (hs : PlainIx b := by exact fun _ _ => rfl) : JE X (.Subscript (.Name x p2) b pos) (dIxO i db) Wx := by
  refine PE_imp (pe_ix ix_seq (pe_var hN hv hd hcd) hb hs) ?_
  rintro σ H Q ⟨G, A, F, ρ, S, rel, rs, sep, po⟩
  unfold dIxO at po
  split at po
  · rename_i ws e
    obtain ⟨v, F0, h1, h2, h3⟩ := rs.get e
    refine ⟨v, h1, ?_⟩
    refine e_then rel rs sep po fun w2 S2 u H2 G2 A2 F2 x2 r2 z2 s2 rs2 sep2 f2 po2 => ?_
    obtain ⟨v', F0', h1', h2', h3'⟩ := rs2.get e
    rw [h1] at h1'
    cases h1'
    unfold ixO at po2
    split at po2
    · cases z2 with
      | d q =>
        cases q
        cases h2' with
        | own ho hw =>
          cases e2 : atI ws _ with
          | none => rw [e2] at po2; exact po2.elim
          | some w' =>
            rw [e2] at po2
            obtain ⟨y, F1, hy, ry, _⟩ := hw.atI e2
            exact .inl ⟨_, _, _, _, rfl, rfl, SqL.of ho, hy, okW_post r2 ry po2⟩
    · exact po2.elim
  · exact po.elim
end
/-! ### lists of expressions, displays -/
def dNil : DA := fun _ S => .ok [] S
def dCons (a : DE) (r : DA) : DA := fun ρ S => (a ρ S).bind fun w S1 => (r ρ S1).bind fun ws S2 => .ok (w :: ws) S2
mutual
/-- a value taken over into the frozen part -/
def er : W → Option D
  | .d x => some x
  | .loc _ => none
  | .own ws => (ers ws).map .lst
def ers : List W → Option (List D)
  | [] => some []
  | w :: r => match er w, ers r with
    | some x, some xs => some (x :: xs)
    | _, _ => none
end
def mkTup (ws : List W) (S : Sto) : Out W := match ers ws with
  | some xs => if xs.length ≤ 1000 then .ok (.d (.tup xs)) S else .bad
  | none => .bad
def mkLst (ws : List W) (S : Sto) : Out W := match ers ws with
  | some xs => if xs.length ≤ 1000 then .ok (.d (.lst xs)) S else .bad
  | none => .bad
def mkOwn (ws : List W) (S : Sto) : Out W := if ws.length ≤ 1000 then .ok (.own ws) S else .bad
def dTup (a : DA) : DE := fun ρ S => (a ρ S).bind mkTup
def dLst (a : DA) : DE := fun ρ S => (a ρ S).bind mkLst
def dLstO (a : DA) : DE := fun ρ S => (a ρ S).bind mkOwn
/-- freeze a value -/
def frz (w : W) (S : Sto) : Out W := match er w with
  | some x => .ok (.d x) S
  | none => .bad
open Classical in
noncomputable def addG (G H : Hp) (F : List Addr) : Hp := fun a => if a ∈ F then H a else G a
section
variable {K : PySem.W.Frag} {mg : Str → Option Value} {X : Cx} {Wx : WX} {σ : L2.St} {H G : Hp} {A F : List Addr} {S : Sto}
theorem addG_in {a : Addr} (h : a ∈ F) : addG G H F a = H a := if_pos h
theorem addG_out {a : Addr} (h : a ∉ F) : addG G H F a = G a := if_neg h
theorem addG_same (sep : Sep F G A) : Same G (addG G H F) := fun a o h => by
  have n : a ∉ F := fun m => by rw [(sep.out a m).1] at h; cases h
  rw [addG_out n]; exact h
theorem Rel.addG (rel : Rel K mg H G A S) (sep : Sep F G A) : Rel K mg H (addG G H F) A S where
  ext := fun a o h => by
    by_cases m : a ∈ F
    · rw [addG_in m] at h; exact h
    · rw [addG_out m] at h; exact rel.ext _ _ h
  len := rel.len
  nd := rel.nd
  cell := fun n a c h1 h2 => cell_mono (fun _ h => h) (addG_same sep) ⟨[], by simp⟩ (rel.cell n a c h1 h2)
  out := fun a m => by
    obtain ⟨h1, h2⟩ := rel.out a m
    refine ⟨?_, h2⟩
    rw [addG_out fun k => (sep.out a k).2 m]
    exact h1
theorem Ext.addG {H0 G0 : Hp} {A0 : List Addr} (x : Ext H0 G0 A0 H G A) (sep : Sep F G A) (f : ∀ a ∈ F, H0 a = none) : Ext H0 G0 A0 H (addG G H F) A where
  g := x.g.trans (addG_same sep)
  a := x.a
  keep := x.keep
  live := x.live
  new := fun b o g h => by
    have n : b ∉ F := fun m => by rw [f b m] at h; cases h
    rw [addG_out n]
    exact x.new b o g h
  newA := x.newA
mutual
theorem RW.er {H G : Hp} {A : List Addr} {F0 : List Addr} (sep : Sep F0 G A) : ∀ {v : V} {w : W} {F : List Addr} {x : D}, RW K mg H G A v w F → (∀ a ∈ F, a ∈ F0) → er w = some x → RV K mg (addG G H F0) v x
  | _, _, _, _, .d r, _, e => by
    cases e
    exact r.mono (addG_same sep)
  | _, _, _, _, .loc _, _, e => by cases e
  | _, _, _, _, .own h r, k, e => by
    obtain ⟨xs, h1, rfl⟩ := Option.map_eq_some_iff.mp (show (ers _).map D.lst = some _ from e)
    exact .lst (by rw [addG_in (k _ List.mem_cons_self)]; exact h) (RWs.er sep r (fun a m => k a (List.mem_cons_of_mem _ m)) h1)
theorem RWs.er {H G : Hp} {A : List Addr} {F0 : List Addr} (sep : Sep F0 G A) : ∀ {v : List V} {w : List W} {F : List Addr} {x : List D}, RWs K mg H G A v w F → (∀ a ∈ F, a ∈ F0) → ers w = some x → RVs K mg (addG G H F0) v x
  | _, _, _, _, .nil, _, e => by cases e; exact .nil
  | _, _, _, x, .cons (w := w) (ws := ws) h r, k, e => by
    unfold ers at e
    split at e
    · rename_i y ys h1 h2
      cases e
      exact .cons (RW.er sep h (fun a m => k a (List.mem_append_left _ m)) h1) (RWs.er sep r (fun a m => k a (List.mem_append_right _ m)) h2)
    · cases e
end
theorem a_nil : JA X [] dNil Wx := by
  refine PA_imp pa_nil ?_
  rintro σ H Q ⟨G, A, F, ρ, S, rel, rs, sep, po⟩
  exact po [] H G A [] .refl rel .nil .nil (fun _ m => nomatch m)
theorem Sep.app {F F' : List Addr} (s : Sep F G A) (s' : Sep F' G A) (d : ∀ a ∈ F, a ∉ F') : Sep (F ++ F') G A :=
  ⟨List.nodup_append.mpr ⟨s.nd, s'.nd, fun a m b m' e => d a m (e ▸ m')⟩, fun a m => (List.mem_append.mp m).elim (s.out a) (s'.out a)⟩
theorem a_cons {e : Expr} {es : List Expr} {da : DE} {dr : DA} (ha : JE X e da Wx) (hr : JA X es dr Wx) (hs : starEach (e :: es) X.env = (false, eval e X.env) :: starEach es X.env := by rfl) : JA X (e :: es) (dCons da dr) Wx := by
  refine PA_imp (pa_cons ha hr hs) ?_
  rintro σ H Q ⟨G, A, F, ρ, S, rel, rs, sep, po⟩
  refine ⟨G, A, F, ρ, S, rel, rs, sep, ?_⟩
  unfold dCons at po
  cases e : da ρ S with
  | bad => rw [e] at po; exact po
  | ex x S1 => rw [e] at po; exact po
  | ok w S1 =>
    rw [e, Out.bind_ok] at po
    intro v H1 G1 A1 F1 x1 r1 z1 s1 f1
    refine ⟨G1, A1, F, ρ, S1, r1, x1.rs rs sep, x1.sep sep rs.there, ?_⟩
    cases e2 : dr ρ S1 with
    | bad => rw [e2] at po; exact po
    | ex x S2 => rw [e2] at po; exact PX.later x1 po
    | ok ws S2 =>
      rw [e2, Out.bind_ok] at po
      intro vs H2 G2 A2 F2 x2 r2 z2 s2 f2
      refine po (v :: vs) H2 G2 A2 (F1 ++ F2) (x1.trans x2) r2 (.cons (x2.rw z1 s1) z2) ((x2.sep s1 z1.there).app s2 fun a m m' => ?_) fun a m => ?_
      · obtain ⟨o, h⟩ := z1.there a m
        rw [f2 a m'] at h; cases h
      · rcases List.mem_append.mp m with m | m
        · exact f1 a m
        · exact fresh_from x1 (f2 a m)
/-- a list of expressions, then k; what is new is told from the start -/
theorem a_then0 {da : DA} {k : List W → Sto → Out W} {R : List V → Hp → Prop} {ρ : Ev} {Q : VK} (rel : Rel K mg H G A S) (rs : RS K mg H G A σ ρ F) (sep : Sep F G A) (po : PostE K mg H G A (WE Wx σ) Q ((da ρ S).bind k))
    (h : ∀ w S1 v H1 G1 A1 F1, Ext H G A H1 G1 A1 → Rel K mg H1 G1 A1 S1 → RWs K mg H1 G1 A1 v w F1 → Sep F1 G1 A1 → (∀ a ∈ F1, H a = none) → PostE K mg H G A (WE Wx σ) Q (k w S1) → R v H1) : tA K mg da Wx σ H R := by
  refine ⟨G, A, F, ρ, S, rel, rs, sep, ?_⟩
  cases e : da ρ S with
  | ok w S1 =>
    rw [e] at po
    exact fun v H1 G1 A1 F1 x r z s f => h w S1 v H1 G1 A1 F1 x r z s f po
  | ex e' S1 => rw [e] at po; exact po
  | bad => rw [e] at po; exact po
theorem line1000 {n : Nat} (h : n ≤ 1000) : n ≤ sizeLine := Nat.le_trans h (by decide)
theorem er_len : ∀ {ws : List W} {xs : List D}, ers ws = some xs → xs.length = ws.length
  | [], _, e => by cases e; rfl
  | w :: r, xs, e => by
    unfold ers at e
    split at e
    · rename_i h1 h2
      cases e
      simp [er_len h2]
    · cases e
theorem e_tup {es : List Expr} {x1 : Nat} {pos : Pos} {da : DA} (h : JA X es da Wx) : JE X (.Tuple es x1 pos) (dTup da) Wx := by
  refine PE_imp (pe_tup h) ?_
  rintro σ H Q ⟨G, A, F, ρ, S, rel, rs, sep, po⟩
  refine a_then0 rel rs sep po fun ws S1 vs H1 G1 A1 F1 x1 r1 z1 s1 f1 po1 => ?_
  unfold mkTup at po1
  split at po1
  · rename_i xs e
    split at po1
    · rename_i hl
      rw [er_len e, ← z1.len] at hl
      refine ⟨line1000 hl, fun p hp => ?_⟩
      have r2 := r1.addG s1
      exact po1 (.ref p) _ (upd (addG G1 H1 F1) p (.tup vs)) A1 [] ((x1.addG s1 f1).trans (.lay r2 hp)) (r2.lay hp) (.d (.tup (SqT.of upd_same) ((z1.er s1 (fun _ m => m) e).mono (same_new (r2.ext.free hp))))) .nil (fun _ m => nomatch m)
    · exact po1.elim
  · exact po1.elim
theorem e_lst {es : List Expr} {pos : Pos} {da : DA} (h : JA X es da Wx) : JE X (.List es pos) (dLst da) Wx := by
  refine PE_imp (pe_lst h) ?_
  rintro σ H Q ⟨G, A, F, ρ, S, rel, rs, sep, po⟩
  refine a_then0 rel rs sep po fun ws S1 vs H1 G1 A1 F1 x1 r1 z1 s1 f1 po1 => ?_
  unfold mkLst at po1
  split at po1
  · rename_i xs e
    split at po1
    · rename_i hl
      rw [er_len e, ← z1.len] at hl
      refine ⟨line1000 hl, fun p hp => ?_⟩
      have r2 := r1.addG s1
      exact po1 (.ref p) _ (upd (addG G1 H1 F1) p (.lst vs)) A1 [] ((x1.addG s1 f1).trans (.lay r2 hp)) (r2.lay hp) (.d (.lst upd_same ((z1.er s1 (fun _ m => m) e).mono (same_new (r2.ext.free hp))))) .nil (fun _ m => nomatch m)
    · exact po1.elim
  · exact po1.elim
theorem e_lstO {es : List Expr} {pos : Pos} {da : DA} (h : JA X es da Wx) : JE X (.List es pos) (dLstO da) Wx := by
  refine PE_imp (pe_lst h) ?_
  rintro σ H Q ⟨G, A, F, ρ, S, rel, rs, sep, po⟩
  refine a_then0 rel rs sep po fun ws S1 vs H1 G1 A1 F1 x1 r1 z1 s1 f1 po1 => ?_
  unfold mkOwn at po1
  split at po1
  · rename_i hl
    rw [← z1.len] at hl
    refine ⟨line1000 hl, fun p hp => ?_⟩
    have y : Ext H1 G1 A1 (upd H1 p (.lst vs)) G1 A1 := .layO hp
    refine po1 (.ref p) _ G1 A1 (p :: F1) (x1.trans y) (r1.layO hp) (.own upd_same (y.rws z1 s1)) ⟨List.nodup_cons.mpr ⟨fun m => ?_, s1.nd⟩, fun a m => ?_⟩ fun a m => ?_
    · obtain ⟨o, h⟩ := z1.there p m
      rw [hp] at h; cases h
    · rcases List.mem_cons.mp m with rfl | m
      · exact ⟨fresh_G r1 hp, fresh_A r1 hp⟩
      · exact s1.out a m
    · rcases List.mem_cons.mp m with rfl | m
      · exact fresh_from x1 hp
      · exact f1 a m
  · exact po1.elim

/-! ### calls of the program's own defs -/
structure Fx (P : Program) (w : World) (K : PySem.W.Frag) (mg : Str → Option Value) (base : Heap) (k : Nat) (x : Str) (np : Nat) (f : DF) : Prop where
  ex : ∃ a fd ps, mg x = some (.ref a) ∧ PySem.W.keepIn K (.ref a) = true ∧ L2.Binds K fd ps [] ∧ FnOk P w K mg base (L2.CX P w) k a fd ps (spD K mg np f)
  len : ∀ ws S, f ws S ≠ .bad → ws.length = np
def isStab : W → Bool
  | .own _ => false
  | _ => true
def ap (f : DF) (ws : List W) (S : Sto) : Out W := if ws.all isStab = true then f ws S else .bad
theorem RWs.stab {K : PySem.W.Frag} {mg : Str → Option Value} {H G : Hp} {A : List Addr} : ∀ {vs : List V} {ws : List W} {F : List Addr}, RWs K mg H G A vs ws F → ws.all isStab = true → F = []
  | _, _, _, .nil, _ => rfl
  | _, _, _, .cons h r, e => by
    rw [List.all_cons, Bool.and_eq_true] at e
    have := RWs.stab r e.2
    subst this
    cases h with
    | d _ => rfl
    | loc _ => rfl
    | own _ _ => cases e.1
def dCall (f : DF) (a : DA) : DE := fun ρ S => (a ρ S).bind (ap f)
theorem e_call {x : Str} {p pos : Pos} {e : Expr} {es : List Expr} {k np : Nat} {f : DF} {da : DA} (Fh : Fx X.prog X.w X.K X.mg X.base k x np f) (hr : Room k X.A) (tk : Takes X Wx) (ha : JA X (e :: es) da Wx) (hg : Gl X x := by rfl) (hdb : (x == ("__debug__" : Str)) = false := by decide)
    (he : starEach (e :: es) X.env = (false, eval e X.env) :: starEach es X.env := by rfl) (hpl : (backTo pos (starEach es X.env)).any (·.1) = false := by rfl) :
    JE X (.Call (.Name x p) (e :: es) [] pos) (dCall f da) Wx := by
  obtain ⟨a, fd, ps, hm, hk, hb, ok⟩ := Fh.ex
  refine PE_imp (pe_callS ok hr hg hm hk hb (fun σ => passAt tk σ) ha hdb he hpl) ?_
  rintro σ H Q ⟨G, A, F, ρ, S, rel, rs, sep, po⟩
  refine a_then0 rel rs sep po fun ws S1 vs H1 G1 A1 F1 x1 r1 z1 s1 f1 po1 => ?_
  unfold ap at po1
  split at po1
  · rename_i e
    have := z1.stab e
    subst this
    refine ⟨?_, G1, A1, ws, S1, r1, z1, PostE.later x1 po1⟩
    rw [z1.len]
    exact Fh.len ws S1 po1.nb
  · exact po1.elim
/-- a call without arguments -/
theorem e_call0 {x : Str} {p pos : Pos} {k : Nat} {f : DF} (Fh : Fx X.prog X.w X.K X.mg X.base k x 0 f) (hr : Room k X.A) (tk : Takes X Wx) (hg : Gl X x := by rfl) (hdb : (x == ("__debug__" : Str)) = false := by decide) :
    JE X (.Call (.Name x p) [] [] pos) (dCall f dNil) Wx := by
  obtain ⟨a, fd, ps, hm, hk, hb, ok⟩ := Fh.ex
  refine ⟨fun pins s σ H Q I h => ?_⟩
  refine wpAny_Call_Name_kw (ld_glob I hg hm ?_ hdb)
  refine PySem.W.callWith_K0 I.kIn hk (run_fnS (us := []) ok hr hb (passAt tk σ) I .nil ?_)
  obtain ⟨G, A, F, ρ, S, rel, rs, sep, po⟩ := h
  exact ⟨rfl, G, A, [], S, rel, .nil, po⟩
end
end DL

set_option Elab.async false
set_option linter.all false
set_option maxRecDepth 100000
set_option maxHeartbeats 2000000
namespace DL
open PySem L2
def sb {α : Type} (o : Out α) (ρ : Ev) (k : α → Sto → SOut) : SOut := match o with
  | .ok a S => k a S
  | .ex e S => .ex e ρ S
  | .bad => .bad
/-- behind a statement -/
def SOut.seq (o : SOut) (k : Ev → Sto → SOut) : SOut := match o with
  | .nx ρ S => k ρ S
  | o => o
def dSkip : DS := fun ρ S => .nx ρ S
def dBad : DS := fun _ _ => .bad
def dSeq (a b : DS) : DS := fun ρ S => (a ρ S).seq b
def dAsg (i : Nat) (e : DE) : DS := fun ρ S => sb (e ρ S) ρ fun w S1 => .nx (ρ.set i (some w)) S1
def dExp (e : DE) : DS := fun ρ S => sb (e ρ S) ρ fun _ S1 => .nx ρ S1
def dRet (e : DE) : DS := fun ρ S => sb (e ρ S) ρ fun w S1 => .rt w S1
def dRetN : DS := fun _ S => .rt (.d .non) S
def dIfS (t : DT) (a b : DS) : DS := fun ρ S => sb (t ρ S) ρ fun c S1 => if c = true then a ρ S1 else b ρ S1
def dBrk : DS := fun ρ S => .bk ρ S
def dCnt : DS := fun ρ S => .ct ρ S
/-- ghosts: names that are not used any more; a slot taken over into the frozen part; a slot's list given to the store -/
def kill (ks : List Nat) (ρ : Ev) : Ev := ks.foldl (fun r k => r.set k none) ρ
def dKill (ks : List Nat) : DS := fun ρ S => .nx (kill ks ρ) S
def dFrz (i : Nat) : DS := fun ρ S => match ρ[i]? with
  | some (some w) => (match er w with
    | some x => .nx (ρ.set i (some (.d x))) S
    | none => .bad)
  | _ => .bad
section
variable {K : PySem.W.Frag} {mg : Str → Option Value} {X : Cx} {Wx : WX} {en : En}
theorem RS.set {H G : Hp} {A : List Addr} {σ : L2.St} {ρ : Ev} {F : List Addr} {v : V} {w : W} {F1 : List Addr} (q : RW K mg H G A v w F1) (r : RS K mg H G A σ ρ F) : ∀ i : Nat, ∃ F', RS K mg H G A (σ.set i (some v)) (ρ.set i (some w)) F' ∧ (∀ a ∈ F', a ∈ F1 ∨ a ∈ F) ∧ (F.Nodup → F1.Nodup → (∀ a ∈ F1, a ∉ F) → F'.Nodup) := by
  induction r with
  | nil => exact fun i => ⟨[], by simpa using RS.nil, fun a m => .inr m, fun _ _ _ => .nil⟩
  | @skip o σ ρ F r ih =>
    intro i
    cases i with
    | zero => exact ⟨F1 ++ F, .slot q r, fun a m => List.mem_append.mp m, fun h1 h2 h3 => List.nodup_append.mpr ⟨h2, h1, fun a m b m' e => h3 a m (e ▸ m')⟩⟩
    | succ i =>
      obtain ⟨F', h1, h2, h3⟩ := ih i
      exact ⟨F', .skip h1, h2, h3⟩
  | @slot v0 w0 σ ρ F0 F r0 r ih =>
    intro i
    cases i with
    | zero =>
      exact ⟨F1 ++ F, .slot q r, fun a m => (List.mem_append.mp m).imp id fun m => List.mem_append_right _ m, fun h1 h2 h3 => List.nodup_append.mpr ⟨h2, (List.nodup_append.mp h1).2.1, fun a m b m' e => h3 a m (e ▸ List.mem_append_right _ m')⟩⟩
    | succ i =>
      obtain ⟨F', h1, h2, h3⟩ := ih i
      refine ⟨F0 ++ F', .slot r0 h1, fun a m => ?_, fun g1 g2 g3 => ?_⟩
      · rcases List.mem_append.mp m with m | m
        · exact .inr (List.mem_append_left _ m)
        · exact (h2 a m).imp id fun m => List.mem_append_right _ m
      · obtain ⟨n1, n2, n3⟩ := List.nodup_append.mp g1
        refine List.nodup_append.mpr ⟨n1, h3 n2 g2 fun a m m' => g3 a m (List.mem_append_right _ m'), fun a m b m' e => ?_⟩
        subst e
        rcases h2 a m' with k | k
        · exact g3 a k (List.mem_append_left _ m)
        · exact n3 a m a k rfl
theorem RS.kill1 {H G : Hp} {A : List Addr} {σ : L2.St} {ρ : Ev} {F : List Addr} (r : RS K mg H G A σ ρ F) : ∀ i : Nat, ∃ F', RS K mg H G A σ (ρ.set i none) F' ∧ F'.Sublist F := by
  induction r with
  | nil => exact fun i => ⟨[], by simpa using RS.nil, List.Sublist.refl _⟩
  | @skip o σ ρ F r ih =>
    intro i
    cases i with
    | zero => exact ⟨F, .skip r, List.Sublist.refl _⟩
    | succ i =>
      obtain ⟨F', h1, h2⟩ := ih i
      exact ⟨F', .skip h1, h2⟩
  | @slot v0 w0 σ ρ F0 F r0 r ih =>
    intro i
    cases i with
    | zero => exact ⟨F, .skip r, List.sublist_append_right _ _⟩
    | succ i =>
      obtain ⟨F', h1, h2⟩ := ih i
      exact ⟨F0 ++ F', .slot r0 h1, (List.Sublist.refl _).append h2⟩
theorem Sep.sub {F F' : List Addr} {G : Hp} {A : List Addr} (s : Sep F G A) (h : F'.Sublist F) : Sep F' G A := ⟨h.nodup s.nd, fun a m => s.out a (h.subset m)⟩
theorem SR.kill {σ : L2.St} {H G : Hp} {A : List Addr} (ks : List Nat) : ∀ {ρ : Ev} {F : List Addr} {S : Sto}, SR K mg en σ ρ H G A F S → ∃ F', SR K mg en σ (DL.kill ks ρ) H G A F' S := by
  induction ks with
  | nil => exact fun h => ⟨_, h⟩
  | cons k ks ih =>
    intro ρ F S h
    obtain ⟨F', h1, h2⟩ := h.rs.kill1 k
    exact ih ⟨h.rel, h1, h.sep.sub h2, h.ext, fun a m => h.young a (h2.subset m), h.low⟩
/-- a later state -/
theorem SR.step {σ : L2.St} {ρ : Ev} {H G H' G' : Hp} {A A' F : List Addr} {S S' : Sto} (h : SR K mg en σ ρ H G A F S) (x : Ext H G A H' G' A') (r : Rel K mg H' G' A' S') : SR K mg en σ ρ H' G' A' F S' :=
  ⟨r, x.rs h.rs h.sep, x.sep h.sep h.rs.there, h.ext.trans x, h.young, h.low.trans x.g⟩
theorem SR.set {σ : L2.St} {ρ : Ev} {H G H' G' : Hp} {A A' F F1 : List Addr} {S S' : Sto} {v : V} {w : W} (h : SR K mg en σ ρ H G A F S) (x : Ext H G A H' G' A') (r : Rel K mg H' G' A' S') (q : RW K mg H' G' A' v w F1) (s : Sep F1 G' A') (f : ∀ a ∈ F1, H a = none) (i : Nat) :
    ∃ F', SR K mg en (σ.set i (some v)) (ρ.set i (some w)) H' G' A' F' S' := by
  have h' := h.step x r
  obtain ⟨F', h1, h2, h3⟩ := h'.rs.set q i
  have dis : ∀ a ∈ F1, a ∉ F := fun a m m' => by
    obtain ⟨o, z⟩ := h.rs.there a m'
    rw [f a m] at z; cases z
  refine ⟨F', r, h1, ⟨h3 h'.sep.nd s.nd dis, fun a m => ?_⟩, h'.ext, fun a m => ?_, h'.low⟩
  · rcases h2 a m with k | k
    · exact s.out a k
    · exact h'.sep.out a k
  · rcases h2 a m with k | k
    · exact fresh_from h.ext (f a k)
    · exact h.young a k
/-- an expression in a statement -/
theorem s_then {σ : L2.St} {ρ : Ev} {H G : Hp} {A F : List Addr} {S : Sto} {Dn : Ends} {da : DE} {k : W → Sto → SOut} {R : VK} (h : SR K mg en σ ρ H G A F S) (po : PostS K mg en Wx Dn (sb (da ρ S) ρ k))
    (hk : ∀ w S1 v H1 G1 A1 F1, Ext H G A H1 G1 A1 → Rel K mg H1 G1 A1 S1 → RW K mg H1 G1 A1 v w F1 → Sep F1 G1 A1 → (∀ a ∈ F1, H a = none) → SR K mg en σ ρ H1 G1 A1 F S1 → PostS K mg en Wx Dn (k w S1) → R v H1) : tE K mg da Wx σ H R := by
  refine ⟨G, A, F, ρ, S, h.rel, h.rs, h.sep, ?_⟩
  cases e : da ρ S with
  | bad => rw [e] at po; exact po
  | ex x S1 =>
    rw [e] at po
    intro c d H' G' A' y r z
    exact po c d σ H' G' A' F (h.step y r) (RX.from h.ext z)
  | ok w S1 =>
    rw [e] at po
    exact fun v H1 G1 A1 F1 x r z s f => hk w S1 v H1 G1 A1 F1 x r z s f (h.step x r) po
theorem s_thenT {σ : L2.St} {ρ : Ev} {H G : Hp} {A F : List Addr} {S : Sto} {Dn : Ends} {da : DT} {k : Bool → Sto → SOut} {R : Bool → Hp → Prop} (h : SR K mg en σ ρ H G A F S) (po : PostS K mg en Wx Dn (sb (da ρ S) ρ k))
    (hk : ∀ w S1 H1 G1 A1, SR K mg en σ ρ H1 G1 A1 F S1 → PostS K mg en Wx Dn (k w S1) → R w H1) : tT K mg da Wx σ H R := by
  refine ⟨G, A, F, ρ, S, h.rel, h.rs, h.sep, ?_⟩
  cases e : da ρ S with
  | bad => rw [e] at po; exact po
  | ex x S1 =>
    rw [e] at po
    intro c d H' G' A' y r z
    exact po c d σ H' G' A' F (h.step y r) (RX.from h.ext z)
  | ok w S1 =>
    rw [e] at po
    exact fun H1 G1 A1 x r => hk w S1 H1 G1 A1 (h.step x r) po
theorem b_nil : JB X en [] dSkip Wx := by
  refine PSs_imp pss_nil ?_
  rintro Dn σ H ⟨G, A, F, ρ, S, h, po⟩
  exact po σ H G A F h
theorem tSeq_of {da db : DS} {Dn : Ends} {σ : L2.St} {H : Hp} (h : tS K mg en (dSeq da db) Wx Dn σ H) : tSeq (tS K mg en da Wx) (tS K mg en db Wx) Dn σ H := by
  obtain ⟨G, A, F, ρ, S, h, po⟩ := h
  refine ⟨G, A, F, ρ, S, h, ?_⟩
  unfold dSeq at po
  cases e : da ρ S with
  | nx r S1 => rw [e] at po; exact fun σ' H' G' A' F' h' => ⟨G', A', F', r, S1, h', po⟩
  | rt w S1 => rw [e] at po; exact po
  | bk r S1 => rw [e] at po; exact po
  | ct r S1 => rw [e] at po; exact po
  | ex x r S1 => rw [e] at po; exact po
  | bad => rw [e] at po; exact po
theorem b_cons {st : Stmt} {rest : List Stmt} {da db : DS} (h1 : JS X en st da Wx) (h2 : JB X en rest db Wx) : JB X en (st :: rest) (dSeq da db) Wx := PSs_imp (pss_cons h1 h2) fun _ _ _ q => tSeq_of q
theorem b_one {st : Stmt} {da : DS} (h1 : JS X en st da Wx) : JB X en [st] da Wx := pss_one h1
/-- ghosts -/
theorem b_kill {sts : List Stmt} {ks : List Nat} {d : DS} (h : JB X en sts d Wx) : JB X en sts (dSeq (dKill ks) d) Wx := by
  refine PSs_imp h ?_
  rintro Dn σ H ⟨G, A, F, ρ, S, h, po⟩
  obtain ⟨F', h'⟩ := h.kill ks
  exact ⟨G, A, F', kill ks ρ, S, h', po⟩
/-- .. behind a statement -/
theorem s_kill {st : Stmt} {ks : List Nat} {d : DS} (h : JS X en st d Wx) : JS X en st (dSeq d (dKill ks)) Wx := by
  refine PS_imp h ?_
  rintro Dn σ H ⟨G, A, F, ρ, S, h, po⟩
  refine ⟨G, A, F, ρ, S, h, ?_⟩
  unfold dSeq at po
  cases e : d ρ S with
  | nx r S1 =>
    rw [e] at po
    intro σ' H' G' A' F' h'
    obtain ⟨F2, h2⟩ := h'.kill ks
    exact po σ' H' G' A' F2 h2
  | rt w S1 => rw [e] at po; exact po
  | bk r S1 => rw [e] at po; exact po
  | ct r S1 => rw [e] at po; exact po
  | ex x r S1 => rw [e] at po; exact po
  | bad => rw [e] at po; exact po
theorem RS.froze {H G : Hp} {A : List Addr} {σ : L2.St} {ρ : Ev} {F : List Addr} {i : Nat} {w : W} {x : D} (r : RS K mg H G A σ ρ F) : (sep : Sep F G A) → ρ[i]? = some (some w) → er w = some x →
    ∃ F1 F', RS K mg H (addG G H F1) A σ (ρ.set i (some (.d x))) F' ∧ F'.Sublist F ∧ F1.Sublist F ∧ ∀ a ∈ F', a ∉ F1 := by
  induction r generalizing i with
  | nil => intro _ h; simp at h
  | @skip o σ ρ F r ih =>
    intro sep h hx
    cases i with
    | zero => simp at h
    | succ i =>
      obtain ⟨F1, F', h1, h2, h3, h4⟩ := ih sep (by simpa using h) hx
      exact ⟨F1, F', .skip h1, h2, h3, h4⟩
  | @slot v0 w0 σ ρ F0 F r0 r ih =>
    intro sep h hx
    obtain ⟨n1, n2, n3⟩ := List.nodup_append.mp sep.nd
    cases i with
    | zero =>
      simp at h
      subst h
      refine ⟨F0, F, .slot (F := []) (.d (r0.er sep.left (fun _ m => m) hx)) (r.frame (addG_same sep.left) ⟨[], by simp⟩ fun _ _ _ h => h), List.sublist_append_right _ _, List.sublist_append_left _ _, fun a m m' => n3 a m' a m rfl⟩
    | succ i =>
      obtain ⟨F1, F', h1, h2, h3, h4⟩ := ih sep.right (by simpa using h) hx
      refine ⟨F1, F0 ++ F', .slot (r0.frame (addG_same (sep.right.sub h3)) ⟨[], by simp⟩ fun _ _ _ h => h) h1, (List.Sublist.refl _).append h2, h3.trans (List.sublist_append_right _ _), fun a m m' => ?_⟩
      rcases List.mem_append.mp m with m | m
      · exact n3 a m a (h3.subset m') rfl
      · exact h4 a m m'
theorem SR.frz {σ : L2.St} {ρ : Ev} {H G : Hp} {A F : List Addr} {S : Sto} {i : Nat} {w : W} {x : D} (h : SR K mg en σ ρ H G A F S) (hi : ρ[i]? = some (some w)) (hx : er w = some x) : ∃ G' F', SR K mg en σ (ρ.set i (some (.d x))) H G' A F' S := by
  obtain ⟨F1, F', h1, h2, h3, h4⟩ := h.rs.froze h.sep hi hx
  refine ⟨addG G H F1, F', h.rel.addG (h.sep.sub h3), h1, ⟨h2.nodup h.sep.nd, fun a m => ⟨?_, (h.sep.out a (h2.subset m)).2⟩⟩, h.ext.addG (h.sep.sub h3) fun a m => h.young a (h3.subset m), fun a m => h.young a (h2.subset m), h.low.trans (addG_same (h.sep.sub h3))⟩
  rw [addG_out (h4 a m)]
  exact (h.sep.out a (h2.subset m)).1
theorem b_frz {sts : List Stmt} {i : Nat} {d : DS} (h : JB X en sts d Wx) : JB X en sts (dSeq (dFrz i) d) Wx := by
  refine PSs_imp h ?_
  rintro Dn σ H ⟨G, A, F, ρ, S, h, po⟩
  unfold dSeq dFrz at po
  split at po
  · rename_i w e
    split at po
    · rename_i x e2
      obtain ⟨G', F', h'⟩ := h.frz e e2
      exact ⟨G', A, F', _, S, h', po⟩
    · exact po.elim
  · exact po.elim
theorem s_bad {st : Stmt} : JS X en st dBad Wx := PS_imp ps_never fun _ _ _ ⟨_, _, _, _, _, _, po⟩ => po
theorem b_bad {st : List Stmt} : JB X en st dBad Wx := PSs_imp pss_never fun _ _ _ ⟨_, _, _, _, _, _, po⟩ => po
theorem s_pass {pos : Pos} : JS X en (.Pass pos) dSkip Wx := by
  refine PS_imp ps_pass ?_
  rintro Dn σ H ⟨G, A, F, ρ, S, h, po⟩
  exact po σ H G A F h
theorem s_brk {pos : Pos} : JS X en (.Break pos) dBrk Wx := by
  refine PS_imp ps_break ?_
  rintro Dn σ H ⟨G, A, F, ρ, S, h, po⟩
  exact po σ H G A F h
theorem s_cnt {pos : Pos} : JS X en (.Continue pos) dCnt Wx := by
  refine PS_imp ps_continue ?_
  rintro Dn σ H ⟨G, A, F, ρ, S, h, po⟩
  exact po σ H G A F h
theorem s_expr {e : Expr} {pos : Pos} {da : DE} (he : JE X e da Wx) (hs : swapsWith e none pos.line X.env = pure false := by rfl) : JS X en (.Expr e pos) (dExp da) Wx := by
  refine PS_imp (ps_expr he hs) ?_
  rintro Dn σ H ⟨G, A, F, ρ, S, h, po⟩
  exact s_then h po fun w S1 v H1 G1 A1 F1 x r z s f h1 po1 => po1 σ H1 G1 A1 F h1
theorem s_ret {e : Expr} {pos : Pos} {da : DE} (he : JE X e da Wx) : JS X en (.Return (some e) pos) (dRet da) Wx := by
  refine PS_imp (ps_ret he) ?_
  rintro Dn σ H ⟨G, A, F, ρ, S, h, po⟩
  exact s_then h po fun w S1 v H1 G1 A1 F1 x r z s f h1 po1 => po1 v H1 G1 A1 F1 h1.ext r z s fun a m => fresh_from h.ext (f a m)
theorem s_retN {pos : Pos} : JS X en (.Return none pos) dRetN Wx := by
  refine PS_imp ps_retN ?_
  rintro Dn σ H ⟨G, A, F, ρ, S, h, po⟩
  exact po .non H G A [] h.ext h.rel (.d .non) .nil fun _ m => nomatch m
theorem s_if {c : Expr} {a b : List Stmt} {pos : Pos} {dt : DT} {da db : DS} (hc : JT X c dt Wx) (ha : JB X en a da Wx) (hb : JB X en b db Wx) : JS X en (.If c a b pos) (dIfS dt da db) Wx := by
  refine PS_imp (ps_if hc ha hb) ?_
  rintro Dn σ H ⟨G, A, F, ρ, S, h, po⟩
  refine s_thenT h po fun w S1 H1 G1 A1 h1 po1 => ?_
  cases w with
  | true => exact ⟨G1, A1, F, ρ, S1, h1, po1⟩
  | false => exact ⟨G1, A1, F, ρ, S1, h1, po1⟩
/-- name = e -/
theorem s_set {i : Nat} {x : Str} {e : Expr} {pos pos' : Pos} {da : DE} (hN : X.N.Nodup) (he : JE X e da Wx) (hi : X.N[i]? = some x := by rfl) (hx : Loc X.env.scope x := by first | exact Or.inl rfl | exact Or.inr rfl) (hs : swapsWith e (some (.Name x pos')) pos.line X.env = pure false := by rfl)
    (hf : X.fn x = true ∨ X.env.scope.names.lookup x = some .local := by first | exact .inl rfl | exact .inr rfl) : JS X en (.Assign [.Name x pos'] e pos) (dAsg i da) Wx := by
  refine PS_imp (ps_set hN hi hx he hs hf) ?_
  rintro Dn σ H ⟨G, A, F, ρ, S, h, po⟩
  refine s_then h po fun w S1 v H1 G1 A1 F1 x r z s f h1 po1 => ?_
  obtain ⟨F', h2⟩ := h.set x r z s f i
  exact po1 _ H1 G1 A1 F' h2
/-! ### a def -/
def dFn (np n : Nat) (body : DS) : DF := fun ws S => if ws.length = np then (match body (ws.map some ++ List.replicate (n - np) none) S with
    | .nx _ S1 => .ok (.d .non) S1
    | .rt w S1 => .ok w S1
    | .ex e _ S1 => .ex e S1
    | _ => .bad) else .bad
theorem dFn_len {np n : Nat} {body : DS} (ws : List W) (S : Sto) (h : dFn np n body ws S ≠ .bad) : ws.length = np := by
  unfold dFn at h
  split at h
  · assumption
  · exact absurd rfl h
theorem RS.args {H G : Hp} {A : List Addr} {n : Nat} : ∀ {vs : List V} {ws : List W} {F : List Addr}, RWs K mg H G A vs ws F → RS K mg H G A (vs.map some ++ List.replicate n none) (ws.map some ++ List.replicate n none) F
  | _, _, _, .nil => by
    induction n with
    | zero => exact .nil
    | succ n ih => exact .skip ih
  | _, _, _, .cons h r => .slot h (RS.args r)
theorem fn_ok {P : Program} {w : World} {base : Heap} {x qual : Str} {st : Stmt} {f : Addr} {fd : FuncData} {N ps : List Str} {k np n : Nat} {body : DS} (Fh : Fun K x qual st f fd) (S : FnScope N ps (defScope st)) (hp : ps.length = np) (hn : N.length = n)
    (hb : ∀ (cdv : Value) (A : Around) (outer : List Env) (s : Shared) (H : Hp) (E : XK) (en : En), Room k (A.deeper (PyProof.Rows.envOfC qual (defScope st) s.heap.objs.size f cdv)) → Takes (cxOf (L2.CX P w) P w K mg base N qual (defScope st) f cdv A outer s H E) (fun cls d _ H => E cls d H) →
      JB (cxOf (L2.CX P w) P w K mg base N qual (defScope st) f cdv A outer s H E) en (defBody st) body (fun cls d _ H => E cls d H)) : FnOk P w K mg base (L2.CX P w) (k + 1) f fd ps (spD K mg np (dFn np n body)) := by
  subst hp hn
  refine Fh.okX S (fun vs H Q E h => h.1) fun cdv A outer s H vs Q E hr h => ?_
  obtain ⟨hl, G, Ad, ws, Sd, rel, rws, po⟩ := h
  refine ⟨_, hb cdv A outer s H E ⟨H, G, Ad, G⟩ hr (takes_of rfl rfl rfl rfl), ?_⟩
  have hw : ws.length = ps.length := by rw [← rws.len]; exact hl
  refine ⟨G, Ad, [], ws.map some ++ List.replicate (N.length - ps.length) none, Sd, ⟨rel, ?_, .nil, .refl, (fun a m => nomatch m), Same.refl _⟩, ?_⟩
  · unfold L2.start
    rw [hl]
    exact RS.args rws
  · unfold dFn at po
    rw [if_pos hw] at po
    cases e : body (ws.map some ++ List.replicate (N.length - ps.length) none) Sd with
    | nx r S1 =>
      rw [e] at po
      exact fun σ H1 G1 A1 F1 h => po .non H1 G1 A1 [] h.ext h.rel (.d .non) .nil fun _ m => nomatch m
    | rt w S1 => rw [e] at po; exact po
    | ex x r S1 =>
      rw [e] at po
      exact fun c d σ H1 G1 A1 F1 h z => po c d H1 G1 A1 h.ext h.rel z
    | bk r S1 => rw [e] at po; exact po.elim
    | ct r S1 => rw [e] at po; exact po.elim
    | bad => rw [e] at po; exact po.elim
/-- a def of the text as its denotation -/
theorem fx_ok {P : Program} {w : World} {base : Heap} {x : Str} {st : Stmt} {f : Addr} {fd : FuncData} {N ps : List Str} {k np n : Nat} {body : DS} (Fh : Fun K x x st f fd) (S : FnScope N ps (defScope st)) (hp : ps.length = np) (hn : N.length = n) (hm : mg x = some (.ref f)) (bi : L2.Binds K fd ps [])
    (hb : ∀ (cdv : Value) (A : Around) (outer : List Env) (s : Shared) (H : Hp) (E : XK) (en : En), Room k (A.deeper (PyProof.Rows.envOfC x (defScope st) s.heap.objs.size f cdv)) → Takes (cxOf (L2.CX P w) P w K mg base N x (defScope st) f cdv A outer s H E) (fun cls d _ H => E cls d H) →
      JB (cxOf (L2.CX P w) P w K mg base N x (defScope st) f cdv A outer s H E) en (defBody st) body (fun cls d _ H => E cls d H)) : Fx P w K mg base (k + 1) x np (dFn np n body) :=
  ⟨⟨f, fd, ps, hm, Fh.kp, bi, fn_ok Fh S hp hn hb⟩, dFn_len⟩
end
end DL

set_option Elab.async false
set_option linter.all false
set_option maxRecDepth 100000
set_option maxHeartbeats 2000000
namespace DL
open PySem L2
/-! ### targets -/
abbrev DG := D → Ev → Option Ev
def gNm (i : Nat) : DG := fun x ρ => some (ρ.set i (some (.d x)))
def gSeq : List DG → List D → Ev → Option Ev
  | [], [], ρ => some ρ
  | g :: gs, x :: xs, ρ => (g x ρ).bind fun ρ1 => gSeq gs xs ρ1
  | _, _, _ => none
def gTp (gs : List DG) : DG := fun x ρ => match x with
  | .tup xs => gSeq gs xs ρ
  | _ => none
def dAsgG (g : DG) (e : DE) : DS := fun ρ S => sb (e ρ S) ρ fun w S1 => match w with
  | .d x => (match g x ρ with
    | some ρ1 => .nx ρ1 S1
    | none => .bad)
  | _ => .bad
section
variable (K : PySem.W.Frag) (mg : Str → Option Value)
def GOk (t : TG) (g : DG) : Prop := ∀ (en : En) (v : V) (x : D) (σ : L2.St) (ρ ρ' : Ev) (H G : Hp) (A F : List Addr) (S : Sto) (Q : L2.St → Hp → Prop), SR K mg en σ ρ H G A F S → RV K mg G v x → g x ρ = some ρ' → (∀ σ' F', SR K mg en σ' ρ' H G A F' S → Q σ' H) → t v σ H Q
def GsOk (t : TGs) (gs : List DG) : Prop := ∀ (en : En) (vs : List V) (xs : List D) (σ : L2.St) (ρ ρ' : Ev) (H G : Hp) (A F : List Addr) (S : Sto) (Q : L2.St → Hp → Prop), SR K mg en σ ρ H G A F S → RVs K mg G vs xs → gSeq gs xs ρ = some ρ' → (∀ σ' F', SR K mg en σ' ρ' H G A F' S → Q σ' H) → t vs σ H Q
end
section
variable {K : PySem.W.Frag} {mg : Str → Option Value} {X : Cx} {Wx : WX} {en : En}
theorem gok_name (i : Nat) : GOk K mg (gName i) (gNm i) := by
  intro en v x σ ρ ρ' H G A F S Q h r e k
  cases e
  obtain ⟨F', h'⟩ := h.set .refl h.rel (.d r) .nil (fun _ m => nomatch m) i
  exact k _ F' h'
theorem gok_nil : GsOk K mg gNil [] := by
  intro en vs xs σ ρ ρ' H G A F S Q h r e k
  cases r with
  | nil => cases e; exact ⟨rfl, k σ F h⟩
  | cons _ _ => cases e
theorem gok_cons {t : TG} {u : TGs} {g : DG} {gs : List DG} (h1 : GOk K mg t g) (h2 : GsOk K mg u gs) : GsOk K mg (gCons t u) (g :: gs) := by
  intro en vs xs σ ρ ρ' H G A F S Q h r e k
  cases r with
  | nil => cases e
  | cons r rr =>
    obtain ⟨ρ1, e1, e2⟩ := Option.bind_eq_some_iff.mp (show (g _ ρ).bind _ = some ρ' from e)
    exact ⟨_, _, rfl, h1 en _ _ σ ρ ρ1 H G A F S _ h r e1 fun σ1 F1 h' => h2 en _ _ σ1 ρ1 ρ' H G A F1 S _ h' rr e2 k⟩
theorem gok_tup {n : Nat} {u : TGs} {gs : List DG} (hn : gs.length = n) (h2 : GsOk K mg u gs) : GOk K mg (gTup K n u) (gTp gs) := by
  intro en v x σ ρ ρ' H G A F S Q h r e k
  unfold gTp at e
  split at e
  · cases r with
    | tup hq rs =>
      refine ⟨_, _, rfl, sqT_mono h.rel.ext hq, ?_, h2 en _ _ σ ρ ρ' H G A F S _ h rs e k⟩
      rw [rs.len, ← hn]
      have : ∀ (gs : List DG) (xs : List D) (ρ : Ev), gSeq gs xs ρ = some ρ' → xs.length = gs.length := by
        intro gs
        induction gs with
        | nil => intro xs ρ e; cases xs with
          | nil => rfl
          | cons _ _ => cases e
        | cons g gs ih =>
          intro xs ρ e
          cases xs with
          | nil => cases e
          | cons x xs =>
            obtain ⟨ρ1, _, e2⟩ := Option.bind_eq_some_iff.mp (show (g _ ρ).bind _ = some ρ' from e)
            simp [ih xs ρ1 e2]
      exact this _ _ _ e
  · cases e
/-- (a, b) = e and the like -/
theorem s_asgG {tg e : Expr} {pos : Pos} {da : DE} {t : TG} {g : DG} (he : JE X e da Wx) (hg : PG X tg t) (ho : GOk X.K X.mg t g) (hs : swapsWithSole [tg] e pos.line X.env = pure false := by rfl) (hw : swappedStores [tg] e X.env = pure none := by rfl)
    (h1 : (assignEach [tg] X.env).map (·.2) = [assign tg X.env] := by rfl) : JS X en (.Assign [tg] e pos) (dAsgG g da) Wx := by
  refine PS_imp (ps_asg he hg hs hw h1) ?_
  rintro Dn σ H ⟨G, A, F, ρ, S, h, po⟩
  refine s_then h po fun w S1 v H1 G1 A1 F1 x r z s f h1 po1 => ?_
  cases z with
  | d q =>
    dsimp only at po1
    split at po1
    · rename_i ρ1 e1
      exact ho en _ _ σ ρ ρ1 H1 G1 A1 F S1 _ h1 q e1 fun σ' F' h' => po1 σ' H1 G1 A1 F' h'
    · exact po1.elim
  | loc _ => exact po1.elim
  | own _ _ => exact po1.elim
end
/-! ### what a loop walks -/
abbrev DI := Ev → Sto → Out (List D)
structure ItOk (K : PySem.W.Frag) (mg : Str → Option Value) (J : It) (G : Hp) (items : List D) : Prop where
  stop : ∀ H, Same G H → J.stop items.length H
  go : ∀ (i : Nat) (d : D) (H : Hp), Same G H → items[i]? = some d → J.go i H ∧ ∀ x H', J.yld i H x H' → (H' = H ∧ RV K mg G x d) ∨ ∃ p vs ds, H p = none ∧ H' = upd H p (.tup vs) ∧ x = .ref p ∧ d = .tup ds ∧ RVs K mg G vs ds
section
variable (K : PySem.W.Frag) (mg : Str → Option Value)
def PostI (H G : Hp) (A : List Addr) (E : XK) (R : It → Hp → Prop) : Out (List D) → Prop
  | .ok xs S => ∀ J H' G' A', Ext H G A H' G' A' → Rel K mg H' G' A' S → ItOk K mg J G' xs → R J H'
  | .ex e S => PX K mg H G A E e S
  | .bad => False
def tI (den : DI) (Wx : WX) : TI := fun σ H R => ∃ G A F ρ S, Rel K mg H G A S ∧ RS K mg H G A σ ρ F ∧ Sep F G A ∧ PostI K mg H G A (WE Wx σ) R (den ρ S)
end
abbrev JI (X : Cx) (tg iter : Expr) (d : DI) (Wx : WX) : Prop := PI X tg iter (tI X.K X.mg d Wx)
def itemsOf : W → Sto → Out (List D)
  | .d (.lst xs), S => .ok xs S
  | .d (.frz xs), S => .ok xs S
  | _, _ => .bad
def iLst (a : DE) : DI := fun ρ S => (a ρ S).bind itemsOf
def tupOf : W → Sto → Out (List D)
  | .d (.tup xs), S => .ok xs S
  | _, _ => .bad
def iTp (a : DE) : DI := fun ρ S => (a ρ S).bind tupOf
def rngD (lo : Int) (n : Nat) : List D := (List.range n).map fun (i : Nat) => D.int (lo + (i : Int))
def rng1 : List W → Sto → Out (List D)
  | [.d (.int j)], S => if -(2 ^ 62) ≤ j ∧ j < 2 ^ 62 then .ok (rngD 0 j.toNat) S else .bad
  | _, _ => .bad
def rng2 : List W → Sto → Out (List D)
  | [.d (.int i), .d (.int j)], S => if (-(2 ^ 62) ≤ i ∧ i < 2 ^ 62) ∧ -(2 ^ 62) ≤ j ∧ j < 2 ^ 62 then .ok (rngD i (j - i).toNat) S else .bad
  | _, _ => .bad
def iRg1 (a : DA) : DI := fun ρ S => (a ρ S).bind rng1
def iRg2 (a : DA) : DI := fun ρ S => (a ρ S).bind rng2
section
variable {K : PySem.W.Frag} {mg : Str → Option Value} {X : Cx} {Wx : WX} {en : En}
theorem PI_imp {tg e : Expr} {t t' : TI} (h : PI X tg e t) (k : ∀ σ H Q, t' σ H Q → t σ H Q) : PI X tg e t' := ⟨fun p s σ H Q I q => h.run p s σ H Q I (k σ H Q q)⟩
theorem e_thenI {σ : L2.St} {H G : Hp} {A F : List Addr} {ρ : Ev} {S : Sto} {da : DE} {k : W → Sto → Out (List D)} {R : VK} {Q : It → Hp → Prop} (rel : Rel K mg H G A S) (rs : RS K mg H G A σ ρ F) (sep : Sep F G A) (po : PostI K mg H G A (WE Wx σ) Q ((da ρ S).bind k))
    (h : ∀ w S1 v H1 G1 A1 F1, Ext H G A H1 G1 A1 → Rel K mg H1 G1 A1 S1 → RW K mg H1 G1 A1 v w F1 → Sep F1 G1 A1 → (∀ a ∈ F1, H a = none) → PostI K mg H G A (WE Wx σ) Q (k w S1) → R v H1) : tE K mg da Wx σ H R := by
  refine ⟨G, A, F, ρ, S, rel, rs, sep, ?_⟩
  cases e : da ρ S with
  | ok w S1 => rw [e] at po; exact fun v H1 G1 A1 F1 x r z s f => h w S1 v H1 G1 A1 F1 x r z s f po
  | ex e' S1 => rw [e] at po; exact po
  | bad => rw [e] at po; exact po
theorem a_thenI {σ : L2.St} {H G : Hp} {A F : List Addr} {ρ : Ev} {S : Sto} {da : DA} {k : List W → Sto → Out (List D)} {R : List V → Hp → Prop} {Q : It → Hp → Prop} (rel : Rel K mg H G A S) (rs : RS K mg H G A σ ρ F) (sep : Sep F G A) (po : PostI K mg H G A (WE Wx σ) Q ((da ρ S).bind k))
    (h : ∀ w S1 v H1 G1 A1 F1, Ext H G A H1 G1 A1 → Rel K mg H1 G1 A1 S1 → RWs K mg H1 G1 A1 v w F1 → Sep F1 G1 A1 → (∀ a ∈ F1, H a = none) → PostI K mg H G A (WE Wx σ) Q (k w S1) → R v H1) : tA K mg da Wx σ H R := by
  refine ⟨G, A, F, ρ, S, rel, rs, sep, ?_⟩
  cases e : da ρ S with
  | ok w S1 => rw [e] at po; exact fun v H1 G1 A1 F1 x r z s f => h w S1 v H1 G1 A1 F1 x r z s f po
  | ex e' S1 => rw [e] at po; exact po
  | bad => rw [e] at po; exact po
theorem RVs.get' {G : Hp} {i : Nat} {v : V} : ∀ {vs : List V} {ds : List D}, RVs K mg G vs ds → vs[i]? = some v → ∃ x, ds[i]? = some x ∧ RV K mg G v x := by
  induction i with
  | zero =>
    intro vs ds r h
    cases r with
    | nil => simp at h
    | cons h1 r => simp at h; subst h; exact ⟨_, by simp, h1⟩
  | succ i ih =>
    intro vs ds r h
    cases r with
    | nil => simp at h
    | cons h1 r =>
      obtain ⟨v, h2, h3⟩ := ih r (by simpa using h)
      exact ⟨v, by simpa using h2, h3⟩
theorem it_list {G : Hp} {a : Addr} {vs : List V} {ds : List D} (h : SqL K G a vs) (r : RVs K mg G vs ds) : ItOk K mg (Itl K a) G ds where
  stop := fun H e => ⟨vs, e.seq h, by rw [r.len]; exact Nat.le_refl _⟩
  go := fun i d H e hd => by
    obtain ⟨v, hv, rv⟩ := r.get hd
    refine ⟨⟨vs, v, e.seq h, hv⟩, fun x H' y => .inl ⟨y.1, ?_⟩⟩
    have := y.2 vs (e.seq h)
    rw [hv] at this
    cases this
    exact rv
theorem it_tup {G : Hp} {a : Addr} {vs : List V} {ds : List D} (h : SqT K G a vs) (r : RVs K mg G vs ds) : ItOk K mg (Itt K a) G ds where
  stop := fun H e => ⟨vs, sqT_mono e h, by rw [r.len]; exact Nat.le_refl _⟩
  go := fun i d H e hd => by
    obtain ⟨v, hv, rv⟩ := r.get hd
    refine ⟨⟨vs, v, sqT_mono e h, hv⟩, fun x H' y => .inl ⟨y.1, ?_⟩⟩
    have := y.2 vs (sqT_mono e h)
    rw [hv] at this
    cases this
    exact rv
theorem it_rng {G : Hp} {lo : Int} {n : Nat} : ItOk K mg (Itr lo n) G (rngD lo n) where
  stop := fun H _ => by show n ≤ _; simp [rngD]
  go := fun i d H e hd => by
    unfold rngD at hd
    rw [List.getElem?_map, Option.map_eq_some_iff] at hd
    obtain ⟨j, hj, rfl⟩ := hd
    have hi := (List.getElem?_eq_some_iff.mp hj).1
    rw [List.length_range] at hi
    have : j = i := by
      rw [List.getElem?_range hi] at hj
      cases hj; rfl
    subst this
    exact ⟨hi, fun x H' y => .inl ⟨y.1, by rw [y.2]; exact .int _⟩⟩
theorem i_lst {tg l : Expr} {da : DE} (hl : JE X l da Wx) : JI X tg l (iLst da) Wx := by
  refine PI_imp (pi_list hl) ?_
  rintro σ H Q ⟨G, A, F, ρ, S, rel, rs, sep, po⟩
  refine e_thenI rel rs sep po fun w S1 v H1 G1 A1 F1 x1 r1 z1 s1 f1 po1 => ?_
  unfold itemsOf at po1
  split at po1
  · cases z1 with
    | d q => cases q with
      | lst h r => exact ⟨_, rfl, ⟨_, SqL.of (r1.ext _ _ h)⟩, po1 _ H1 G1 A1 x1 r1 (it_list (SqL.of h) r)⟩
  · cases z1 with
    | d q => cases q with
      | frz h r => exact ⟨_, rfl, ⟨_, r1.ext.seq h⟩, po1 _ H1 G1 A1 x1 r1 (it_list h r)⟩
  · exact po1.elim
theorem i_tup {tg l : Expr} {da : DE} (hl : JE X l da Wx) : JI X tg l (iTp da) Wx := by
  refine PI_imp (pi_tup hl) ?_
  rintro σ H Q ⟨G, A, F, ρ, S, rel, rs, sep, po⟩
  refine e_thenI rel rs sep po fun w S1 v H1 G1 A1 F1 x1 r1 z1 s1 f1 po1 => ?_
  unfold tupOf at po1
  split at po1
  · cases z1 with
    | d q => cases q with
      | tup h r => exact ⟨_, rfl, ⟨_, sqT_mono r1.ext h⟩, po1 _ H1 G1 A1 x1 r1 (it_tup h r)⟩
  · exact po1.elim
theorem i_rng1 {tg a : Expr} {p pos : Pos} {da : DA} (hm : X.mg "range" = none) (ha : JA X [a] da Wx) (hg : Gl X "range" := by rfl) (hs : starEach [a] X.env = [(false, eval a X.env)] := by rfl) : JI X tg (.Call (.Name "range" p) [a] [] pos) (iRg1 da) Wx := by
  refine PI_imp (pi_range1 hg hm ha hs) ?_
  rintro σ H Q ⟨G, A, F, ρ, S, rel, rs, sep, po⟩
  refine a_thenI rel rs sep po fun w S1 v H1 G1 A1 F1 x1 r1 z1 s1 f1 po1 => ?_
  unfold rng1 at po1
  split at po1
  · split at po1
    · rename_i hc
      cases z1 with
      | cons q qs =>
        cases qs
        cases q with
        | d q =>
          cases q
          exact ⟨_, rfl, hc.1, hc.2, po1 _ H1 G1 A1 x1 r1 it_rng⟩
    · exact po1.elim
  · exact po1.elim
theorem i_rng2 {tg a b : Expr} {p pos : Pos} {da : DA} (hm : X.mg "range" = none) (ha : JA X [a, b] da Wx) (hg : Gl X "range" := by rfl) (hs : starEach [a, b] X.env = [(false, eval a X.env), (false, eval b X.env)] := by rfl) (hs2 : starEach [b] X.env = [(false, eval b X.env)] := by rfl) : JI X tg (.Call (.Name "range" p) [a, b] [] pos) (iRg2 da) Wx := by
  refine PI_imp (pi_range2 hg hm ha hs hs2) ?_
  rintro σ H Q ⟨G, A, F, ρ, S, rel, rs, sep, po⟩
  refine a_thenI rel rs sep po fun w S1 v H1 G1 A1 F1 x1 r1 z1 s1 f1 po1 => ?_
  unfold rng2 at po1
  split at po1
  · split at po1
    · rename_i hc
      cases z1 with
      | cons q qs =>
        cases qs with
        | cons q2 qs =>
          cases qs
          cases q with
          | d q =>
            cases q2 with
            | d q2 =>
              cases q; cases q2
              exact ⟨_, _, rfl, ⟨hc.1.1, hc.1.2, hc.2.1, hc.2.2⟩, po1 _ H1 G1 A1 x1 r1 it_rng⟩
    · exact po1.elim
  · exact po1.elim
end
/-! ### for, while -/
def loop (g : DG) (body : DS) : List D → DS
  | [], ρ, S => .nx ρ S
  | x :: r, ρ, S => match g x ρ with
    | none => .bad
    | some ρ1 => match body ρ1 S with
      | .nx ρ' S' => loop g body r ρ' S'
      | .ct ρ' S' => loop g body r ρ' S'
      | .bk ρ' S' => .nx ρ' S'
      | .rt w S' => .rt w S'
      | .ex e ρ' S' => .ex e ρ' S'
      | .bad => .bad
def dFor (g : DG) (di : DI) (body : DS) : DS := fun ρ S => sb (di ρ S) ρ fun xs S1 => loop g body xs ρ S1
def whileD (t : DT) (body : DS) : Nat → DS
  | 0, _, _ => .bad
  | n + 1, ρ, S => sb (t ρ S) ρ fun c S1 => if c = true then (match body ρ S1 with
      | .nx ρ' S' => whileD t body n ρ' S'
      | .ct ρ' S' => whileD t body n ρ' S'
      | .bk ρ' S' => .nx ρ' S'
      | .rt w S' => .rt w S'
      | .ex e ρ' S' => .ex e ρ' S'
      | .bad => .bad) else .nx ρ S1
section
variable {K : PySem.W.Frag} {mg : Str → Option Value} {X : Cx} {Wx : WX} {en : En}
theorem PostS.up {L : Hp} {Dn : Ends} {o : SOut} (hl : Same en.L L) (po : PostS K mg en Wx Dn o) : PostS K mg (en.up L) Wx Dn o := by
  have dn : ∀ {σ ρ H G A F S}, SR K mg (en.up L) σ ρ H G A F S → SR K mg en σ ρ H G A F S := fun h => ⟨h.rel, h.rs, h.sep, h.ext, h.young, hl.trans h.low⟩
  cases o with
  | nx ρ S => exact fun σ H G A F h => po σ H G A F (dn h)
  | bk ρ S => exact fun σ H G A F h => po σ H G A F (dn h)
  | ct ρ S => exact fun σ H G A F h => po σ H G A F (dn h)
  | rt w S => exact po
  | ex x ρ S => exact fun c d σ H G A F h z => po c d σ H G A F (dn h) z
  | bad => exact po
theorem SR.up {σ : L2.St} {ρ : Ev} {H G : Hp} {A F : List Addr} {S : Sto} (h : SR K mg en σ ρ H G A F S) : SR K mg (en.up G) σ ρ H G A F S := ⟨h.rel, h.rs, h.sep, h.ext, h.young, Same.refl _⟩
theorem s_thenI {σ : L2.St} {ρ : Ev} {H G : Hp} {A F : List Addr} {S : Sto} {Dn : Ends} {da : DI} {k : List D → Sto → SOut} {R : It → Hp → Prop} (h : SR K mg en σ ρ H G A F S) (po : PostS K mg en Wx Dn (sb (da ρ S) ρ k))
    (hk : ∀ xs S1 J H1 G1 A1, SR K mg en σ ρ H1 G1 A1 F S1 → ItOk K mg J G1 xs → PostS K mg en Wx Dn (k xs S1) → R J H1) : tI K mg da Wx σ H R := by
  refine ⟨G, A, F, ρ, S, h.rel, h.rs, h.sep, ?_⟩
  cases e : da ρ S with
  | bad => rw [e] at po; exact po
  | ex x S1 =>
    rw [e] at po
    intro c d H' G' A' y r z
    exact po c d σ H' G' A' F (h.step y r) (RX.from h.ext z)
  | ok w S1 =>
    rw [e] at po
    exact fun J H1 G1 A1 x r i => hk w S1 J H1 G1 A1 (h.step x r) i po
theorem tFor_of {g : DG} {t : TG} {di : DI} {db : DS} {tb : TS} {Dn : Ends} {σ : L2.St} {H : Hp} (ho : GOk K mg t g) (hb : ∀ L Dn σ H, tS K mg (en.up L) db Wx Dn σ H → tb Dn σ H) (h : tS K mg en (dFor g di db) Wx Dn σ H) : tFor (tI K mg di Wx) t tb Dn σ H := by
  obtain ⟨G, A, F, ρ, S, h, po⟩ := h
  refine s_thenI h po fun xs S1 J H1 G1 A1 h1 it po1 => ?_
  have po2 := PostS.up h1.low po1
  refine ⟨fun i m σ H => m = xs.length - i ∧ i ≤ xs.length ∧ ∃ G A F ρ S, SR K mg (en.up G1) σ ρ H G A F S ∧ PostS K mg (en.up G1) Wx Dn (loop g db (xs.drop i) ρ S), ⟨xs.length, by simp, Nat.zero_le _, G1, A1, F, ρ, S1, h1.up, po2⟩, ?_⟩
  rintro i m σ' H' ⟨rfl, hi, G', A', F', ρ', S', h', po'⟩
  by_cases hlt : i < xs.length
  · refine .inr ?_
    have hx : xs[i]? = some xs[i] := List.getElem?_eq_getElem hlt
    obtain ⟨hgo, hy⟩ := it.go i _ H' (h'.low.trans h'.rel.ext) hx
    refine ⟨hgo, fun σ2 H2 => ∃ G A F ρ S, SR K mg (en.up G1) σ2 ρ H2 G A F S ∧ PostS K mg (en.up G1) Wx Dn (loop g db (xs.drop (i + 1)) ρ S), fun σ2 H2 ⟨G2, A2, F2, ρ2, S2, h2, p2⟩ => ⟨xs.length - (i + 1), by omega, rfl, hlt, G2, A2, F2, ρ2, S2, h2, p2⟩, fun x H2 y => ?_⟩
    rw [List.drop_eq_getElem_cons hlt] at po'
    have main : ∀ {H2 G2 : Hp}, SR K mg (en.up G1) σ' ρ' H2 G2 A' F' S' → RV K mg G2 x xs[i] → t x σ' H2 fun σ3 H3 => tb { Dn with nx := fun σ2 H2 => ∃ G A F ρ S, SR K mg (en.up G1) σ2 ρ H2 G A F S ∧ PostS K mg (en.up G1) Wx Dn (loop g db (xs.drop (i + 1)) ρ S), ct := fun σ2 H2 => ∃ G A F ρ S, SR K mg (en.up G1) σ2 ρ H2 G A F S ∧ PostS K mg (en.up G1) Wx Dn (loop g db (xs.drop (i + 1)) ρ S), bk := Dn.nx } σ3 H3 := by
      intro H2 G2 h2 rv
      unfold loop at po'
      split at po'
      · exact po'.elim
      · rename_i ρ1 e1
        refine ho (en.up G1) x _ σ' ρ' ρ1 H2 G2 A' F' S' _ h2 rv e1 fun σ3 F3 h3 => hb G1 _ σ3 H2 ⟨G2, A', F3, ρ1, S', h3, ?_⟩
        cases e : db ρ1 S' with
        | nx r S4 => rw [e] at po'; exact fun σ4 H4 G4 A4 F4 h4 => ⟨G4, A4, F4, r, S4, h4, po'⟩
        | ct r S4 => rw [e] at po'; exact fun σ4 H4 G4 A4 F4 h4 => ⟨G4, A4, F4, r, S4, h4, po'⟩
        | bk r S4 => rw [e] at po'; exact po'
        | rt w S4 => rw [e] at po'; exact po'
        | ex x r S4 => rw [e] at po'; exact po'
        | bad => rw [e] at po'; exact po'
    rcases hy x H2 y with ⟨rfl, rv⟩ | ⟨p, vs, ds, hp, rfl, rfl, ed, rv⟩
    · exact main h' (rv.mono h'.low)
    · refine main (h'.step (.lay h'.rel hp) (h'.rel.lay hp)) ?_
      rw [ed]
      exact .tup (SqT.of upd_same) (rv.mono (h'.low.trans (same_new (h'.rel.ext.free hp))))
  · have e : i = xs.length := by omega
    subst e
    rw [List.drop_length] at po'
    exact .inl ⟨it.stop H' (h'.low.trans h'.rel.ext), po' σ' H' G' A' F' h'⟩
theorem s_for {tg iter : Expr} {body : List Stmt} {pos : Pos} {g : DG} {t : TG} {di : DI} {db : DS} (hp : PassesOwn (model X.prog X.w) X.A X.env X.xe) (hc : X.calm = true) (hi : JI X tg iter di Wx) (hg : PG X tg t) (ho : GOk X.K X.mg t g) (hb : ∀ L, JB X (en.up L) body db Wx)
    (hs : ∀ x, foldedSetIterable iter X.env x = pure x := by intro _; rfl) : JS X en (.For tg iter body [] pos) (dFor g di db) Wx := by
  refine PS_imp (ps_for (tb := fun Dn σ H => ∃ L, tS X.K X.mg (en.up L) db Wx Dn σ H) hp hc hi hg ⟨fun p s σ H Dn I q => ?_⟩ hs) fun Dn σ H q => tFor_of ho (fun L Dn σ H q => ⟨L, q⟩) q
  obtain ⟨L, q⟩ := q
  exact (hb L).run p s σ H Dn I q
theorem s_while {c : Expr} {body : List Stmt} {pos : Pos} {dt : DT} {db : DS} (n : Nat) (hp : PassesOwn (model X.prog X.w) X.A X.env X.xe) (hc : JT X c dt Wx) (hb : JB X en body db Wx) : JS X en (.While c body [] pos) (whileD dt db n) Wx := by
  refine PS_imp (ps_while hp hc hb) ?_
  rintro Dn σ H ⟨G, A, F, ρ, S, h, po⟩
  refine ⟨fun m σ H => ∃ G A F ρ S, SR X.K X.mg en σ ρ H G A F S ∧ PostS X.K X.mg en Wx Dn (whileD dt db m ρ S), ⟨n, G, A, F, ρ, S, h, po⟩, ?_⟩
  rintro m σ' H' ⟨G', A', F', ρ', S', h', po'⟩
  cases m with
  | zero => exact po'.elim
  | succ m =>
    refine s_thenT h' po' fun b S1 H1 G1 A1 h1 po1 => ?_
    cases b with
    | false => exact po1 σ' H1 G1 A1 F' h1
    | true =>
      refine ⟨fun σ2 H2 => ∃ G A F ρ S, SR X.K X.mg en σ2 ρ H2 G A F S ∧ PostS X.K X.mg en Wx Dn (whileD dt db m ρ S), fun σ2 H2 q => ⟨m, Nat.lt_succ_self _, q⟩, G1, A1, F', ρ', S1, h1, ?_⟩
      rw [if_pos rfl] at po1
      cases e : db ρ' S1 with
      | nx r S4 => rw [e] at po1; exact fun σ4 H4 G4 A4 F4 h4 => ⟨G4, A4, F4, r, S4, h4, po1⟩
      | ct r S4 => rw [e] at po1; exact fun σ4 H4 G4 A4 F4 h4 => ⟨G4, A4, F4, r, S4, h4, po1⟩
      | bk r S4 => rw [e] at po1; exact po1
      | rt w S4 => rw [e] at po1; exact po1
      | ex x r S4 => rw [e] at po1; exact po1
      | bad => rw [e] at po1; exact po1
end
end DL

set_option Elab.async false
set_option linter.all false
set_option maxRecDepth 100000
set_option maxHeartbeats 2000000
namespace DL
open PySem L2
/-! ### built-ins -/
def dsOf : List W → Option (List D)
  | [] => some []
  | .d x :: r => (dsOf r).map (x :: ·)
  | _ => none
def apL (f : List D → Option D) (ws : List W) (S : Sto) : Out W := match dsOf ws with
  | some xs => (match f xs with
    | some z => .ok (.d z) S
    | none => .bad)
  | none => .bad
def dBt (f : List D → Option D) (a : DA) : DE := fun ρ S => (a ρ S).bind (apL f)
def CallD (K : PySem.W.Frag) (mg : Str → Option Value) (r : List V → Hp → VK → Prop) (f : List D → Option D) : Prop :=
  ∀ {vs : List V} {xs : List D} {z : D} {H G : Hp} {A : List Addr} {S : Sto} {Q : VK}, Rel K mg H G A S → RVs K mg G vs xs → f xs = some z →
    (∀ v' H' G', Ext H G A H' G' A → Rel K mg H' G' A S → RV K mg G' v' z → Q v' H') → r vs H Q
def intsOf : List D → Option (List Int)
  | [] => some []
  | .int i :: r => (intsOf r).map (i :: ·)
  | _ => none
def blsOf : List D → Option (List Bool)
  | [] => some []
  | .bl b :: r => (blsOf r).map (b :: ·)
  | _ => none
def fLen : List D → Option D
  | [.str z] => if z.length ≤ sizeLine then some (.int z.length) else none
  | [.lst xs] => some (.int xs.length)
  | [.tup xs] => some (.int xs.length)
  | [.frz xs] => some (.int xs.length)
  | _ => none
def fAbs : List D → Option D
  | [.int i] => some (.int (if i < 0 then -i else i))
  | _ => none
def maxI : List Int → Int
  | [] => 0
  | [x] => x
  | x :: r => max x (maxI r)
def minI : List Int → Int
  | [] => 0
  | [x] => x
  | x :: r => min x (minI r)
def fMax : List D → Option D
  | [.int i, .int j] => some (.int (if j > i then j else i))
  | [.lst xs] => match intsOf xs with
    | some (x :: r) => some (.int (maxI (x :: r)))
    | _ => none
  | _ => none
def fMin : List D → Option D
  | [.int i, .int j] => some (.int (if j < i then j else i))
  | [.lst xs] => match intsOf xs with
    | some (x :: r) => some (.int (minI (x :: r)))
    | _ => none
  | _ => none
def fSum : List D → Option D
  | [.lst xs] => (intsOf xs).map fun ns => .int ns.sum
  | _ => none
def fAny : List D → Option D
  | [.lst xs] => (blsOf xs).map fun bs => .bl (bs.any id)
  | _ => none
def fAll : List D → Option D
  | [.lst xs] => (blsOf xs).map fun bs => .bl (bs.all id)
  | _ => none
def fInt : List D → Option D
  | [.int i] => some (.int i)
  | [.bl b] => some (.int (if b then 1 else 0))
  | _ => none
def fList : List D → Option D
  | [.lst xs] => some (.lst xs)
  | [.tup xs] => some (.lst xs)
  | [.frz xs] => some (.lst xs)
  | _ => none
def fTuple : List D → Option D
  | [.lst xs] => some (.tup xs)
  | [.tup xs] => some (.tup xs)
  | _ => none
def fGcd : List D → Option D
  | [.int i, .int j] => some (.int (Nat.gcd i.natAbs j.natAbs))
  | _ => none
def fStr : List D → Option D
  | [.int i] => if i.natAbs.log2 < 1920 then some (.str (toString i)) else none
  | _ => none
section
variable {K : PySem.W.Frag} {mg : Str → Option Value} {X : Cx} {Wx : WX} {en : En}
theorem RWs.ds {H G : Hp} {A : List Addr} : ∀ {vs : List V} {ws : List W} {F : List Addr} {xs : List D}, RWs K mg H G A vs ws F → dsOf ws = some xs → RVs K mg G vs xs
  | _, _, _, _, .nil, e => by cases e; exact .nil
  | _, _, _, _, .cons (w := w) h r, e => by
    cases h with
    | d q =>
      obtain ⟨ys, h1, rfl⟩ := Option.map_eq_some_iff.mp (show (dsOf _).map _ = some _ from e)
      exact .cons q (RWs.ds r h1)
    | loc _ => cases e
    | own _ _ => cases e
theorem tCB_of {r : List V → Hp → VK → Prop} {f : List D → Option D} {da : DA} {σ : L2.St} {H : Hp} {Q : VK} (hf : CallD K mg r f) (h : tE K mg (dBt f da) Wx σ H Q) : tCB r (tA K mg da Wx) σ H Q := by
  obtain ⟨G, A, F, ρ, S, rel, rs, sep, po⟩ := h
  refine a_then0 rel rs sep po fun ws S1 vs H1 G1 A1 F1 x1 r1 z1 s1 f1 po1 => ?_
  unfold apL at po1
  split at po1
  · rename_i xs e
    split at po1
    · rename_i z e2
      exact hf r1 (z1.ds e) e2 fun v' H' G' y ry rv => po1 v' H' G' A1 [] (x1.trans y) ry (.d rv) .nil (fun _ m => nomatch m)
    · exact po1.elim
  · exact po1.elim
theorem e_bt {x : Str} {p pos : Pos} {e : Expr} {es : List Expr} {id : String} {r : List V → Hp → VK → Prop} {f : List D → Option D} {da : DA} (hc : CallR X (.builtin id) r) (hf : CallD X.K X.mg r f) (hm : X.mg x = none) (hv : bootBuiltins x = some (.builtin id)) (ha : JA X (e :: es) da Wx) (hg : Gl X x := by rfl) (hn : x ≠ "__name__" := by decide) (hdb : (x == ("__debug__" : Str)) = false := by decide)
    (he : starEach (e :: es) X.env = (false, eval e X.env) :: starEach es X.env := by rfl) (hpl : (backTo pos (starEach es X.env)).any (·.1) = false := by rfl) : JE X (.Call (.Name x p) (e :: es) [] pos) (dBt f da) Wx :=
  PE_imp (pe_callB hc hg hm hv ha hn hdb he hpl) fun _ _ _ q => tCB_of hf q
theorem e_ty {x : Str} {p pos : Pos} {e : Expr} {es : List Expr} {T : String} {r : List V → Hp → VK → Prop} {f : List D → Option D} {da : DA} (hc : CallR X (.type T) r) (hf : CallD X.K X.mg r f) (hm : X.mg x = none) (hv : bootBuiltins x = some (.type T)) (ha : JA X (e :: es) da Wx) (hg : Gl X x := by rfl) (hn : x ≠ "__name__" := by decide) (hdb : (x == ("__debug__" : Str)) = false := by decide)
    (he : starEach (e :: es) X.env = (false, eval e X.env) :: starEach es X.env := by rfl) (hpl : (backTo pos (starEach es X.env)).any (·.1) = false := by rfl) : JE X (.Call (.Name x p) (e :: es) [] pos) (dBt f da) Wx :=
  PE_imp (pe_callTy hc hg hm hv ha hn hdb he hpl) fun _ _ _ q => tCB_of hf q
theorem e_bf {x : Str} {p pos : Pos} {e : Expr} {es : List Expr} {id : String} {r : List V → Hp → VK → Prop} {f : List D → Option D} {da : DA} (hc : CallR X (.builtin id) r) (hf : CallD X.K X.mg r f) (hm : X.mg x = some (.builtin id)) (ha : JA X (e :: es) da Wx) (hg : Gl X x := by rfl) (hdb : (x == ("__debug__" : Str)) = false := by decide)
    (he : starEach (e :: es) X.env = (false, eval e X.env) :: starEach es X.env := by rfl) (hpl : (backTo pos (starEach es X.env)).any (·.1) = false := by rfl) : JE X (.Call (.Name x p) (e :: es) [] pos) (dBt f da) Wx :=
  PE_imp (pe_callBfun hc hg hm ha hdb he hpl) fun _ _ _ q => tCB_of hf q
theorem RVs.one {G : Hp} {vs : List V} {x : D} (r : RVs K mg G vs [x]) : ∃ v, vs = [v] ∧ RV K mg G v x := by
  cases r with
  | cons h r => cases r; exact ⟨_, rfl, h⟩
theorem RVs.two {G : Hp} {vs : List V} {x y : D} (r : RVs K mg G vs [x, y]) : ∃ v u, vs = [v, u] ∧ RV K mg G v x ∧ RV K mg G u y := by
  cases r with
  | cons h r => cases r with
    | cons h2 r => cases r; exact ⟨_, _, rfl, h, h2⟩
theorem RVs.ints {G : Hp} : ∀ {vs : List V} {xs : List D} {ns : List Int}, RVs K mg G vs xs → intsOf xs = some ns → vs = ns.map V.int
  | _, _, _, .nil, e => by cases e; rfl
  | _, _, _, .cons h r, e => by
    unfold intsOf at e
    split at e
    · exact nomatch (show (_ :: _ : List D) = [] from by assumption)
    · rename_i heq
      cases heq
      obtain ⟨ys, h1, rfl⟩ := Option.map_eq_some_iff.mp e
      cases h
      rw [RVs.ints r h1]; rfl
    · cases e
theorem RVs.bls {G : Hp} : ∀ {vs : List V} {xs : List D} {ns : List Bool}, RVs K mg G vs xs → blsOf xs = some ns → vs = ns.map V.bl
  | _, _, _, .nil, e => by cases e; rfl
  | _, _, _, .cons h r, e => by
    unfold blsOf at e
    split at e
    · exact nomatch (show (_ :: _ : List D) = [] from by assumption)
    · rename_i heq
      cases heq
      obtain ⟨ys, h1, rfl⟩ := Option.map_eq_some_iff.mp e
      cases h
      rw [RVs.bls r h1]; rfl
    · cases e
theorem maxI_spec : ∀ {ns : List Int}, ns ≠ [] → maxI ns ∈ ns ∧ ∀ y ∈ ns, y ≤ maxI ns
  | [], h => absurd rfl h
  | [x], _ => by simp [maxI]
  | x :: y :: r, _ => by
    obtain ⟨h1, h2⟩ := maxI_spec (ns := y :: r) (by simp)
    show max x (maxI (y :: r)) ∈ _ ∧ ∀ z ∈ x :: y :: r, z ≤ max x (maxI (y :: r))
    refine ⟨?_, fun z m => ?_⟩
    · rcases Int.le_total x (maxI (y :: r)) with h | h
      · rw [Int.max_eq_right h]; exact List.mem_cons_of_mem _ h1
      · rw [Int.max_eq_left h]; exact List.mem_cons_self
    · rcases List.mem_cons.mp m with rfl | m
      · exact Int.le_max_left _ _
      · exact Int.le_trans (h2 z m) (Int.le_max_right _ _)
theorem minI_spec : ∀ {ns : List Int}, ns ≠ [] → minI ns ∈ ns ∧ ∀ y ∈ ns, minI ns ≤ y
  | [], h => absurd rfl h
  | [x], _ => by simp [minI]
  | x :: y :: r, _ => by
    obtain ⟨h1, h2⟩ := minI_spec (ns := y :: r) (by simp)
    show min x (minI (y :: r)) ∈ _ ∧ ∀ z ∈ x :: y :: r, min x (minI (y :: r)) ≤ z
    refine ⟨?_, fun z m => ?_⟩
    · rcases Int.le_total x (minI (y :: r)) with h | h
      · rw [Int.min_eq_left h]; exact List.mem_cons_self
      · rw [Int.min_eq_right h]; exact List.mem_cons_of_mem _ h1
    · rcases List.mem_cons.mp m with rfl | m
      · exact Int.min_le_left _ _
      · exact Int.le_trans (Int.min_le_right _ _) (h2 z m)
theorem cd_len : CallD K mg (fun xs H Q => ∃ x n, xs = [x] ∧ LenV K x H n ∧ Q (.int n) H) fLen := by
  intro vs xs z H G A S Q rel r e k
  unfold fLen at e
  split at e
  · split at e
    · rename_i hl
      obtain ⟨v, rfl, h⟩ := r.one
      cases h; cases e
      exact ⟨_, _, rfl, ⟨hl, rfl⟩, rel.nochange k (.int _)⟩
    · cases e
  · obtain ⟨v, rfl, h⟩ := r.one
    cases e
    cases h with
    | lst h q => exact ⟨_, _, rfl, .inl ⟨_, SqL.of (rel.ext _ _ h), rfl⟩, by rw [q.len]; exact rel.nochange k (.int _)⟩
  · obtain ⟨v, rfl, h⟩ := r.one
    cases e
    cases h with
    | tup h q => exact ⟨_, _, rfl, .inr ⟨_, sqT_mono rel.ext h, rfl⟩, by rw [q.len]; exact rel.nochange k (.int _)⟩
  · obtain ⟨v, rfl, h⟩ := r.one
    cases e
    cases h with
    | frz h q => exact ⟨_, _, rfl, .inl ⟨_, rel.ext.seq h, rfl⟩, by rw [q.len]; exact rel.nochange k (.int _)⟩
  · cases e
theorem cd_abs : CallD K mg (fun xs H Q => ∃ i, xs = [.int i] ∧ Q (.int (if i < 0 then -i else i)) H) fAbs := by
  intro vs xs z H G A S Q rel r e k
  unfold fAbs at e
  split at e
  · obtain ⟨v, rfl, h⟩ := r.one
    cases h; cases e
    exact ⟨_, rfl, rel.nochange k (.int _)⟩
  · cases e
def rMaxA (K : PySem.W.Frag) : List V → Hp → VK → Prop := fun xs H Q => (∃ i j, xs = [.int i, .int j] ∧ Q (.int (if j > i then j else i)) H) ∨ rMax K xs H Q
def rMinA (K : PySem.W.Frag) : List V → Hp → VK → Prop := fun xs H Q => (∃ i j, xs = [.int i, .int j] ∧ Q (.int (if j < i then j else i)) H) ∨ rMin K xs H Q
theorem CallR.or2 {f : Value} {r r' : List V → Hp → VK → Prop} (h : CallR X f r) (h' : CallR X f r') : CallR X f (fun xs H Q => r xs H Q ∨ r' xs H Q) := by
  intro pins s σ H xs us Q I rr q
  rcases q with q | q
  · exact h pins s σ H xs us Q I rr q
  · exact h' pins s σ H xs us Q I rr q
theorem call_maxA (hc : X.calm = true) : CallR X (.builtin "max") (rMaxA X.K) := CallR.or2 (call_max2 hc) (cr_max hc)
theorem call_minA (hc : X.calm = true) : CallR X (.builtin "min") (rMinA X.K) := CallR.or2 (call_min2 hc) (cr_min hc)
theorem cd_max : CallD K mg (rMaxA K) fMax := by
  intro vs xs z H G A S Q rel r e k
  unfold fMax at e
  split at e
  · obtain ⟨v, u, rfl, h, h2⟩ := r.two
    cases h; cases h2; cases e
    exact .inl ⟨_, _, rfl, rel.nochange k (.int _)⟩
  · split at e
    · rename_i ys x r' ei
      obtain ⟨v, rfl, h⟩ := r.one
      cases e
      cases h with
      | lst h q =>
        rw [q.ints ei] at h
        refine .inr ⟨_, _, rfl, SqL.of (rel.ext _ _ h), by simp, fun m h1 h2 => ?_⟩
        obtain ⟨h3, h4⟩ := maxI_spec (ns := x :: r') (by simp)
        have : m = maxI (x :: r') := Int.le_antisymm (h4 m h1) (h2 _ h3)
        rw [this]
        exact rel.nochange k (.int _)
    · cases e
  · cases e
theorem cd_min : CallD K mg (rMinA K) fMin := by
  intro vs xs z H G A S Q rel r e k
  unfold fMin at e
  split at e
  · obtain ⟨v, u, rfl, h, h2⟩ := r.two
    cases h; cases h2; cases e
    exact .inl ⟨_, _, rfl, rel.nochange k (.int _)⟩
  · split at e
    · rename_i ys x r' ei
      obtain ⟨v, rfl, h⟩ := r.one
      cases e
      cases h with
      | lst h q =>
        rw [q.ints ei] at h
        refine .inr ⟨_, _, rfl, SqL.of (rel.ext _ _ h), by simp, fun m h1 h2 => ?_⟩
        obtain ⟨h3, h4⟩ := minI_spec (ns := x :: r') (by simp)
        have : m = minI (x :: r') := Int.le_antisymm (h2 _ h3) (h4 m h1)
        rw [this]
        exact rel.nochange k (.int _)
    · cases e
  · cases e
theorem cd_sum : CallD K mg (rSum K) fSum := by
  intro vs xs z H G A S Q rel r e k
  unfold fSum at e
  split at e
  · obtain ⟨ns, ei, rfl⟩ := Option.map_eq_some_iff.mp e
    obtain ⟨v, rfl, h⟩ := r.one
    cases h with
    | lst h q =>
      rw [q.ints ei] at h
      exact ⟨_, _, rfl, SqL.of (rel.ext _ _ h), rel.nochange k (.int _)⟩
  · cases e
theorem cd_any : CallD K mg (rAny K) fAny := by
  intro vs xs z H G A S Q rel r e k
  unfold fAny at e
  split at e
  · obtain ⟨ns, ei, rfl⟩ := Option.map_eq_some_iff.mp e
    obtain ⟨v, rfl, h⟩ := r.one
    cases h with
    | lst h q =>
      rw [q.bls ei] at h
      exact ⟨_, _, rfl, SqL.of (rel.ext _ _ h), rel.nochange k (.bl _)⟩
  · cases e
theorem cd_all : CallD K mg (rAll K) fAll := by
  intro vs xs z H G A S Q rel r e k
  unfold fAll at e
  split at e
  · obtain ⟨ns, ei, rfl⟩ := Option.map_eq_some_iff.mp e
    obtain ⟨v, rfl, h⟩ := r.one
    cases h with
    | lst h q =>
      rw [q.bls ei] at h
      exact ⟨_, _, rfl, SqL.of (rel.ext _ _ h), rel.nochange k (.bl _)⟩
  · cases e
theorem cd_int : CallD K mg (fun xs H Q => (∃ i, xs = [.int i] ∧ Q (.int i) H) ∨ ∃ k, xs = [.bl k] ∧ Q (.int (if k then 1 else 0)) H) fInt := by
  intro vs xs z H G A S Q rel r e k
  unfold fInt at e
  split at e
  · obtain ⟨v, rfl, h⟩ := r.one
    cases h; cases e
    exact .inl ⟨_, rfl, rel.nochange k (.int _)⟩
  · obtain ⟨v, rfl, h⟩ := r.one
    cases h; cases e
    exact .inr ⟨_, rfl, rel.nochange k (.int _)⟩
  · cases e
theorem cd_list : CallD K mg (fun xs H Q => ∃ p ys, xs = [.ref p] ∧ (SqL K H p ys ∨ SqT K H p ys) ∧ ∀ l, H l = none → Q (.ref l) (upd H l (.lst ys))) fList := by
  intro vs xs z H G A S Q rel r e k
  unfold fList at e
  split at e
  · obtain ⟨v, rfl, h⟩ := r.one
    cases e
    cases h with
    | lst h q => exact ⟨_, _, rfl, .inl (SqL.of (rel.ext _ _ h)), rel.newLst k q⟩
  · obtain ⟨v, rfl, h⟩ := r.one
    cases e
    cases h with
    | tup h q => exact ⟨_, _, rfl, .inr (sqT_mono rel.ext h), rel.newLst k q⟩
  · obtain ⟨v, rfl, h⟩ := r.one
    cases e
    cases h with
    | frz h q => exact ⟨_, _, rfl, .inl (rel.ext.seq h), rel.newLst k q⟩
  · cases e
theorem cd_tuple : CallD K mg (fun xs H Q => ∃ p ys, xs = [.ref p] ∧ ((SqL K H p ys ∧ ∀ l, H l = none → Q (.ref l) (upd H l (.tup ys))) ∨ (SqT K H p ys ∧ Q (.ref p) H))) fTuple := by
  intro vs xs z H G A S Q rel r e k
  unfold fTuple at e
  split at e
  · obtain ⟨v, rfl, h⟩ := r.one
    cases e
    cases h with
    | lst h q => exact ⟨_, _, rfl, .inl ⟨SqL.of (rel.ext _ _ h), rel.newTup k q⟩⟩
  · obtain ⟨v, rfl, h⟩ := r.one
    cases e
    cases h with
    | tup h q => exact ⟨_, _, rfl, .inr ⟨sqT_mono rel.ext h, rel.nochange k (.tup h q)⟩⟩
  · cases e
theorem cd_gcd : CallD K mg rGcd fGcd := by
  intro vs xs z H G A S Q rel r e k
  unfold fGcd at e
  split at e
  · obtain ⟨v, u, rfl, h, h2⟩ := r.two
    cases h; cases h2; cases e
    exact ⟨_, _, rfl, rel.nochange k (.int _)⟩
  · cases e
theorem cd_str : CallD K mg (fun xs H Q => ∃ i, xs = [.int i] ∧ i.natAbs.log2 < 1920 ∧ Q (.str (toString i)) H) fStr := by
  intro vs xs z H G A S Q rel r e k
  unfold fStr at e
  split at e
  · split at e
    · rename_i hl
      obtain ⟨v, rfl, h⟩ := r.one
      cases h; cases e
      exact ⟨_, rfl, hl, rel.nochange k (.str _)⟩
    · cases e
  · cases e
/-! ### isinstance of data against a built-in class -/
def tyD : D → Option String
  | .non => some "NoneType"
  | .bl _ => some "bool"
  | .int _ => some "int"
  | .str _ => some "str"
  | .lst _ => some "list"
  | .frz _ => some "list"
  | .tup _ => some "tuple"
  | _ => none
def isiW (T : String) : W → Sto → Out W
  | .d x, S => match (tyD x).bind fun a => kitB a T with
    | some b => .ok (.d (.bl b)) S
    | none => .bad
  | _, _ => .bad
def dIsi (T : String) (a : DE) : DE := fun ρ S => (a ρ S).bind (isiW T)
theorem tyx {G H : Hp} {v : V} {x : D} {a : String} (e : Same G H) (r : RV K mg G v x) (h : tyD x = some a) : TyX K H v (.type a) := by
  cases r with
  | non => cases h; exact .base .non
  | bl b => cases h; exact .base (.bl b)
  | int i => cases h; exact .base (.int i)
  | str z => cases h; exact .base (.str z)
  | lst q _ => cases h; exact .base (.lst (e _ _ q))
  | frz q _ =>
    cases h
    rcases q with (q | ⟨o, q⟩) | ⟨o, its, n, q1, q2, _⟩
    · exact .base (.lst (e _ _ q))
    · exact .base (.frz (e _ _ q))
    · exact .kList q1 q2
  | tup q _ =>
    cases h
    rcases q with (q | ⟨o, q⟩) | ⟨o, its, n, q1, q2, _⟩
    · exact .base (.tup (e _ _ q))
    · exact .fTuple (e _ _ q)
    · exact .kTuple q1 q2
  | ins _ _ _ => cases h
  | fn _ => cases h
  | exc _ _ => cases h
theorem e_isi {e : Expr} {T : Str} {Ts : String} {p p2 pos : Pos} {da : DE} (hm : X.mg "isinstance" = none) (hT : X.mg T = none) (hb : bootBuiltins T = some (.type Ts)) (ha : JE X e da Wx) (hg : Gl X "isinstance" := by rfl) (hgT : Gl X T := by rfl) (hn : T ≠ "__name__" := by decide) (hd : (T == ("__debug__" : Str)) = false := by decide)
    (he : starEach [e, .Name T p2] X.env = (false, eval e X.env) :: starEach [.Name T p2] X.env := by rfl) :
    JE X (.Call (.Name "isinstance" p) [e, .Name T p2] [] pos) (dIsi Ts da) Wx := by
  refine PE_imp (pe_callB call_isi hg hm (by decide +kernel) (pa_cons ha (pa_cons (pe_bltn (v := .ty Ts) hgT hT hb rfl hn hd) pa_nil) he) (he := he)) ?_
  rintro σ H Q ⟨G, A, F, ρ, S, rel, rs, sep, po⟩
  refine e_then rel rs sep po fun w S1 v H1 G1 A1 F1 x1 r1 z1 s1 rs1 sep1 f1 po1 => ?_
  show ∃ _, _
  cases z1 with
  | d q =>
    unfold isiW at po1
    dsimp only at po1
    split at po1
    · rename_i b eb
      obtain ⟨a, h1, h2⟩ := Option.bind_eq_some_iff.mp eb
      exact ⟨v, .ty Ts, _, _, b, rfl, .ty Ts, tyx r1.ext q h1, kit_ty h2, po1 _ H1 G1 A1 [] .refl r1 (.d (.bl b)) .nil (fun _ m => nomatch m)⟩
    · exact po1.elim
  | loc _ => exact po1.elim
  | own _ _ => exact po1.elim
end
end DL

set_option Elab.async false
set_option linter.all false
set_option maxRecDepth 100000
set_option maxHeartbeats 2000000
namespace DL
open PySem L2
abbrev W0 : WX := fun _ _ _ _ => False
/-! ### comprehensions -/
/-- where nothing may be raised -/
def nox {α : Type} : Out α → Out α
  | .ex _ _ => .bad
  | o => o
def comp (vs : List Nat) (g : DG) (t : DT) (e : DE) : List D → Ev → Sto → Out (List W)
  | [], _, S => .ok [] S
  | x :: r, ρ, S => match g x (kill vs ρ) with
    | none => .bad
    | some ρ1 => (nox (t ρ1 S)).bind fun c S1 => if c = true then (nox (e ρ1 S1)).bind fun w S2 => (comp vs g t e r ρ S2).bind fun ws S3 => .ok (w :: ws) S3 else comp vs g t e r ρ S1
def finL (ws : List W) (S : Sto) : Out W := match ers ws with
  | some xs => .ok (.d (.lst xs)) S
  | none => .bad
def finO (ws : List W) (S : Sto) : Out W := .ok (.own ws) S
def dLcG (fin : List W → Sto → Out W) (vs : List Nat) (g : DG) (di : DI) (t : DT) (e : DE) : DE := fun ρ S => (di ρ S).bind fun xs S1 => if xs.length ≤ 1000000 then (comp vs g t e xs ρ S1).bind fin else .bad
def dYes : DT := fun _ S => .ok true S
abbrev dLc := dLcG finL
abbrev dLcO := dLcG finO
section
variable {K : PySem.W.Frag} {mg : Str → Option Value} {X : Cx} {Wx : WX} {en : En}
theorem kill_cons (k : Nat) (ks : List Nat) (ρ : Ev) : kill (k :: ks) ρ = kill ks (ρ.set k none) := rfl
theorem kill_set (k : Nat) : ∀ (ks : List Nat) (ρ : Ev), kill ks (ρ.set k none) = (kill ks ρ).set k none := by
  intro ks
  induction ks with
  | nil => intro ρ; rfl
  | cons j ks ih =>
    intro ρ
    rw [kill_cons, kill_cons, ← ih]
    by_cases h : k = j
    · subst h; rfl
    · rw [List.set_comm _ _ h]
theorem RS.wipe1 {H G : Hp} {A : List Addr} {σ : L2.St} {ρ : Ev} {F : List Addr} (r : RS K mg H G A σ ρ F) : ∀ i : Nat, ∃ F', RS K mg H G A (σ.set i none) (ρ.set i none) F' ∧ F'.Sublist F := by
  induction r with
  | nil => exact fun i => ⟨[], by simpa using RS.nil, List.Sublist.refl _⟩
  | @skip o σ ρ F r ih =>
    intro i
    cases i with
    | zero => exact ⟨F, .skip r, List.Sublist.refl _⟩
    | succ i =>
      obtain ⟨F', h1, h2⟩ := ih i
      exact ⟨F', .skip h1, h2⟩
  | @slot v0 w0 σ ρ F0 F r0 r ih =>
    intro i
    cases i with
    | zero => exact ⟨F, .skip r, List.sublist_append_right _ _⟩
    | succ i =>
      obtain ⟨F', h1, h2⟩ := ih i
      exact ⟨F0 ++ F', .slot r0 h1, (List.Sublist.refl _).append h2⟩
theorem RS.wipe {H G : Hp} {A : List Addr} {σ : L2.St} {ρ : Ev} {F : List Addr} (r : RS K mg H G A σ ρ F) : ∀ vs : List Nat, ∃ F', RS K mg H G A (wipe σ vs) (kill vs ρ) F' ∧ F'.Sublist F := by
  intro vs
  induction vs with
  | nil => exact ⟨F, r, List.Sublist.refl _⟩
  | cons k ks ih =>
    obtain ⟨F', h1, h2⟩ := ih
    obtain ⟨F2, h3, h4⟩ := h1.wipe1 k
    exact ⟨F2, by rw [kill_cons, kill_set]; exact h3, h4.trans h2⟩
theorem RWs.snoc {H G : Hp} {A : List Addr} {v : V} {w : W} {F1 : List Addr} (h : RW K mg H G A v w F1) : ∀ {vs : List V} {ws : List W} {F : List Addr}, RWs K mg H G A vs ws F → RWs K mg H G A (vs ++ [v]) (ws ++ [w]) (F ++ F1)
  | _, _, _, .nil => by
    have : F1 = F1 ++ [] := by simp
    show RWs K mg H G A [v] [w] F1
    rw [this]
    exact .cons h .nil
  | _, _, _, .cons h0 r => by
    rw [List.append_assoc]
    exact .cons h0 (RWs.snoc h r)
/-- one name or several, behind wiping: what the reading of a turn asks -/
def GW (t : TG) (g : DG) (vs : List Nat) : Prop := ∀ (v : V) (σ : L2.St) (H : Hp) (Q : L2.St → Hp → Prop) (Q' : L2.St → Hp → Prop), t v (wipe σ vs) H Q → (∀ σ2 H2, L2.wipe σ2 vs = L2.wipe σ vs → Q σ2 H2 → Q' σ2 H2) → t v (wipe σ vs) H Q'
theorem PostE.nox {H G : Hp} {A : List Addr} {E : XK} {Q : VK} {o : Out W} {k : W → Sto → Out W} (po : PostE K mg H G A E Q ((nox o).bind k)) : ∃ w S, o = .ok w S ∧ PostE K mg H G A E Q (k w S) := by
  cases o with
  | ok w S => exact ⟨w, S, rfl, po⟩
  | ex _ _ => exact po.elim
  | bad => exact po.elim
theorem PostE.noxT {H G : Hp} {A : List Addr} {E : XK} {Q : VK} {o : Out Bool} {k : Bool → Sto → Out W} (po : PostE K mg H G A E Q ((DL.nox o).bind k)) : ∃ w S, o = .ok w S ∧ PostE K mg H G A E Q (k w S) := by
  cases o with
  | ok w S => exact ⟨w, S, rfl, po⟩
  | ex _ _ => exact po.elim
  | bad => exact po.elim
theorem bind_assoc {α β γ : Type} (o : Out α) (f : α → Sto → Out β) (g : β → Sto → Out γ) : (o.bind f).bind g = o.bind fun a S => (f a S).bind g := by cases o <;> rfl
/-- what becomes of the finished list -/
def FinOk (K : PySem.W.Frag) (mg : Str → Option Value) (fin : List W → Sto → Out W) : Prop := ∀ (H G : Hp) (A : List Addr) (S : Sto) (D : Addr) (vs : List V) (ws : List W) (F : List Addr) (H0 G0 : Hp) (A0 : List Addr) (E : XK) (Q : VK), Ext H0 G0 A0 H G A → Rel K mg H G A S → H D = some (.lst vs) → RWs K mg H G A vs ws F → Sep (D :: F) G A →
  (∀ a ∈ D :: F, H0 a = none) → PostE K mg H0 G0 A0 E Q (fin ws S) → Q (.ref D) H
theorem fin_L : FinOk K mg finL := by
  intro H G A S D vs ws F H0 G0 A0 E Q x rel hD r sep f po
  unfold finL at po
  split at po
  · rename_i xs e
    exact po (.ref D) H (addG G H (D :: F)) A [] (x.addG sep f) (rel.addG sep) (.d (.lst (by rw [addG_in List.mem_cons_self]; exact hD) (r.er sep (fun a m => List.mem_cons_of_mem _ m) e))) .nil (fun _ m => nomatch m)
  · exact po.elim
theorem fin_O : FinOk K mg finO := by
  intro H G A S D vs ws F H0 G0 A0 E Q x rel hD r sep f po
  exact po (.ref D) H G A (D :: F) x rel (.own hD r) sep f
theorem line1m {n : Nat} (h : n < 1000000) : n < sizeLine := Nat.lt_of_lt_of_le h (by decide)
theorem Ext.bot {H G : Hp} {A : List Addr} : Ext (fun _ => none) (fun _ => none) [] H G A := ⟨(fun _ _ h => nomatch h), ⟨A, by simp⟩, (fun _ _ h => nomatch h), (fun _ _ h => nomatch h), (fun _ _ _ h => nomatch h), (fun _ _ _ => rfl)⟩
theorem tLc_of {fin : List W → Sto → Out W} {vs : List Nat} {g : DG} {tg : TG} {di : DI} {dt : DT} {de : DE} {tt : TT} {te : TE} {σ : L2.St} {H : Hp} {Q : VK} (hfin : FinOk K mg fin) (ho : GOk K mg tg g) (hw : GW tg g vs)
    (ht : ∀ σ H Q, tT K mg dt W0 σ H Q → tt σ H Q) (he : ∀ σ H Q, tE K mg de W0 σ H Q → te σ H Q) (h : tE K mg (dLcG fin vs g di dt de) Wx σ H Q) : tLc (tI K mg di Wx) tg tt te vs σ H Q := by
  obtain ⟨G, A, F, ρ, S, rel, rs, sep, po⟩ := h
  refine ⟨G, A, F, ρ, S, rel, rs, sep, ?_⟩
  unfold dLcG at po
  cases ei : di ρ S with
  | bad => rw [ei] at po; exact po
  | ex y S1 => rw [ei] at po; exact po
  | ok xs S1 =>
    rw [ei, Out.bind_ok] at po
    intro J H1 G1 A1 x1 r1 it D hD
    split at po
    rotate_left
    · exact po.elim
    rename_i hlen
    have rs1 := x1.rs rs sep
    have sep1 := x1.sep sep rs.there
    refine ⟨fun i m H => m = xs.length - i ∧ i ≤ xs.length ∧ ∃ G' A' S' us ws F', Ext H1 G1 A1 H G' A' ∧ Rel K mg H G' A' S' ∧ H D = some (.lst us) ∧ us.length ≤ i ∧ RWs K mg H G' A' us ws F' ∧ Sep (D :: F') G' A' ∧ (∀ a ∈ D :: F', H1 a = none) ∧ PostE K mg H1 G1 A1 (WE Wx σ) Q ((comp vs g dt de (xs.drop i) ρ S').bind fun rest S'' => fin (ws ++ rest) S''), ⟨xs.length, by simp, Nat.zero_le _, G1, A1, S1, [], [], [], .layO hD, r1.layO hD, upd_same, Nat.le_refl _, .nil, ⟨by simp, fun a m => ?_⟩, fun a m => ?_, PostE.later x1 po⟩, ?_⟩
    · rcases List.mem_singleton.mp m with rfl
      exact ⟨fresh_G r1 hD, fresh_A r1 hD⟩
    · rcases List.mem_singleton.mp m with rfl
      exact hD
    rintro i m H' ⟨rfl, hi, G', A', S', us, ws, F', x', r', hD', hus, rw', sp', fr', po'⟩
    by_cases hlt : i < xs.length
    · have hx : xs[i]? = some xs[i] := List.getElem?_eq_getElem hlt
      obtain ⟨hgo, hy⟩ := it.go i _ H' (x'.g.trans r'.ext) hx
      refine .inr ⟨hgo, fun H => ∃ G' A' S' us ws F', Ext H1 G1 A1 H G' A' ∧ Rel K mg H G' A' S' ∧ H D = some (.lst us) ∧ us.length ≤ i + 1 ∧ RWs K mg H G' A' us ws F' ∧ Sep (D :: F') G' A' ∧ (∀ a ∈ D :: F', H1 a = none) ∧ PostE K mg H1 G1 A1 (WE Wx σ) Q ((comp vs g dt de (xs.drop (i + 1)) ρ S').bind fun rest S'' => fin (ws ++ rest) S''), fun H2 q => ⟨xs.length - (i + 1), by omega, rfl, hlt, q⟩, fun x H2 y => ?_⟩
      rw [List.drop_eq_getElem_cons hlt] at po'
      have main : ∀ {H2 G2 : Hp}, Ext H' G' A' H2 G2 A' → Rel K mg H2 G2 A' S' → RV K mg G2 x xs[i] → tg x (L2.wipe σ vs) H2 fun σ2 H3 => L2.wipe σ2 vs = L2.wipe σ vs ∧ tt σ2 H3 fun b H4 =>
          if b = true then te σ2 H4 fun y H5 => ∃ acc, H5 D = some (.lst acc) ∧ acc.length < sizeLine ∧ (fun H => ∃ G' A' S' us ws F', Ext H1 G1 A1 H G' A' ∧ Rel K mg H G' A' S' ∧ H D = some (.lst us) ∧ us.length ≤ i + 1 ∧ RWs K mg H G' A' us ws F' ∧ Sep (D :: F') G' A' ∧ (∀ a ∈ D :: F', H1 a = none) ∧ PostE K mg H1 G1 A1 (WE Wx σ) Q ((comp vs g dt de (xs.drop (i + 1)) ρ S').bind fun rest S'' => fin (ws ++ rest) S'')) (upd H5 D (.lst (acc ++ [y])))
          else (fun H => ∃ G' A' S' us ws F', Ext H1 G1 A1 H G' A' ∧ Rel K mg H G' A' S' ∧ H D = some (.lst us) ∧ us.length ≤ i + 1 ∧ RWs K mg H G' A' us ws F' ∧ Sep (D :: F') G' A' ∧ (∀ a ∈ D :: F', H1 a = none) ∧ PostE K mg H1 G1 A1 (WE Wx σ) Q ((comp vs g dt de (xs.drop (i + 1)) ρ S').bind fun rest S'' => fin (ws ++ rest) S'')) H4 := by
        intro H2 G2 x2 r2 rv
        unfold comp at po'
        split at po'
        · exact po'.elim
        rename_i ρ1 e1
        -- the slots of the block
        have rs2 := x2.rs (x'.rs rs1 sep1) (x'.sep sep1 rs1.there)
        have sep2 := x2.sep (x'.sep sep1 rs1.there) (x'.rs rs1 sep1).there
        obtain ⟨Fw, rw2, sub⟩ := rs2.wipe vs
        have sepw := sep2.sub sub
        refine hw x σ H2 _ _ (ho ⟨fun _ => none, fun _ => none, [], fun _ => none⟩ x _ (L2.wipe σ vs) (kill vs ρ) ρ1 H2 G2 A' Fw S' (fun σ2 H3 => ∃ F3, H3 = H2 ∧ RS K mg H2 G2 A' σ2 ρ1 F3 ∧ Sep F3 G2 A') ⟨r2, rw2, sepw, Ext.bot, (fun _ _ => rfl), (fun _ _ h => nomatch h)⟩ rv e1 fun σ' F3 h3 => ⟨F3, rfl, h3.rs, h3.sep⟩) fun σ2 H3 hwp ⟨F3, e3, rs3, sep3⟩ => ?_
        subst e3
        refine ⟨hwp, ht _ _ _ ⟨G2, A', F3, ρ1, S', r2, rs3, sep3, ?_⟩⟩
        rw [bind_assoc] at po'
        obtain ⟨c, S3, et, po2⟩ := po'.noxT
        rw [et]
        intro H4 G4 A4 x4 r4
        have rs4 := x4.rs rs3 sep3
        have sep4 := x4.sep sep3 rs3.there
        have x24 := x2.trans x4
        have rw4 := x24.rws rw' ⟨(List.nodup_cons.mp sp'.nd).2, fun a m => sp'.out a (List.mem_cons_of_mem _ m)⟩
        have hDt : ∀ a ∈ D :: F', ∃ o, H' a = some o := fun a m => by
          rcases List.mem_cons.mp m with rfl | m
          · exact ⟨_, hD'⟩
          · exact rw'.there a m
        have sp4 := x24.sep sp' hDt
        have hD4 := x24.keep D _ hD' (sp'.out D List.mem_cons_self).2
        cases c with
        | false => exact ⟨G4, A4, S3, us, ws, F', x'.trans x24, r4, hD4, Nat.le_succ_of_le hus, rw4, sp4, fr', po2⟩
        | true =>
          refine he _ _ _ ⟨G4, A4, F3, ρ1, S3, r4, rs4, sep4, ?_⟩
          rw [if_pos rfl, bind_assoc] at po2
          obtain ⟨w, S5, ee, po3⟩ := po2.nox
          rw [ee]
          intro y H5 G5 A5 F5 x5 r5 z5 s5 f5
          have x25 := x24.trans x5
          have hD5 := x5.keep D _ hD4 (sp4.out D List.mem_cons_self).2
          have sp5 := x25.sep sp' hDt
          have rw5 := x25.rws rw' ⟨(List.nodup_cons.mp sp'.nd).2, fun a m => sp'.out a (List.mem_cons_of_mem _ m)⟩
          have dis : ∀ a ∈ D :: F', a ∉ F5 := fun a m m' => by
            obtain ⟨o, ho⟩ := hDt a m
            obtain ⟨o', ho'⟩ := x24.live a o ho
            rw [f5 a m'] at ho'; cases ho'
          have spA : Sep ((D :: F') ++ F5) G5 A5 := sp5.app s5 dis
          have hDA := (sp5.out D List.mem_cons_self)
          have nDF : D ∉ F' := (List.nodup_cons.mp sp'.nd).1
          have nD5 : D ∉ F5 := dis D List.mem_cons_self
          have upk : ∀ a o, a ≠ D → H5 a = some o → upd H5 D (.lst (us ++ [y])) a = some o := fun a o ne h => by rw [upd_ne ne]; exact h
          have rel6 : Rel K mg (upd H5 D (.lst (us ++ [y]))) G5 A5 S5 := {
            ext := fun a o h => upk a o (fun e => by rw [e, hDA.1] at h; cases h) (r5.ext a o h)
            len := r5.len
            nd := r5.nd
            cell := fun n a c h1 h2 => cell_mono (fun u h => upk a u (fun e => hDA.2 (e ▸ List.mem_of_getElem? h1)) h) (Same.refl _) ⟨[], by simp⟩ (r5.cell n a c h1 h2)
            out := fun a m => by
              obtain ⟨h1, o, h2⟩ := r5.out a m
              exact ⟨h1, o, upk a o (fun e => hDA.2 (e ▸ m)) h2⟩ }
          have x6 : Ext H1 G1 A1 (upd H5 D (.lst (us ++ [y]))) G5 A5 := {
            g := (x'.trans x25).g
            a := (x'.trans x25).a
            keep := fun b o h n => upk b o (fun e => by rw [e, fr' D List.mem_cons_self] at h; cases h) ((x'.trans x25).keep b o h n)
            live := fun b o h => by
              obtain ⟨o', h'⟩ := (x'.trans x25).live b o h
              exact ⟨o', upk b o' (fun e => by rw [e, fr' D List.mem_cons_self] at h; cases h) h'⟩
            new := (x'.trans x25).new
            newA := (x'.trans x25).newA }
          refine ⟨us, hD5, line1m (by omega), G5, A5, S5, us ++ [y], ws ++ [w], F' ++ F5, x6, rel6, upd_same, by rw [List.length_append]; simp; omega, ?_, spA, fun a m => ?_, ?_⟩
          · exact (RWs.snoc z5 rw5).frame (Same.refl _) ⟨[], by simp⟩ fun a m o h => upk a o (fun e => by
              subst e
              rcases List.mem_append.mp m with m | m
              · exact nDF m
              · exact nD5 m) h
          · rcases List.mem_cons.mp m with rfl | m
            · exact fr' _ List.mem_cons_self
            · rcases List.mem_append.mp m with m | m
              · exact fr' a (List.mem_cons_of_mem _ m)
              · exact fresh_from x' (fresh_from x24 (f5 a m))
          · rw [bind_assoc] at po3
            have e9 : (fun rest S'' => fin (ws ++ [w] ++ rest) S'') = fun (a : List W) (S : Sto) => (Out.ok (w :: a) S : Out (List W)).bind fun rest S'' => fin (ws ++ rest) S'' := by
              funext a S
              rw [Out.bind_ok, List.append_assoc]; rfl
            rw [e9]
            exact po3
      rcases hy x H2 y with ⟨rfl, rv⟩ | ⟨p, vs', ds, hp, rfl, rfl, ed, rv⟩
      · exact main .refl r' (rv.mono x'.g)
      · refine main (.lay r' hp) (r'.lay hp) ?_
        rw [ed]
        exact .tup (SqT.of upd_same) (rv.mono (x'.g.trans (same_new (r'.ext.free hp))))
    · have e : i = xs.length := by omega
      subst e
      rw [List.drop_length] at po'
      unfold comp at po'
      rw [Out.bind_ok, List.append_nil] at po'
      exact .inl ⟨it.stop H' (x'.g.trans r'.ext), hfin H' G' A' S' D us ws F' H1 G1 A1 _ Q x' r' hD' rw' sp' fr' po'⟩
theorem wipe_set {σ : L2.St} {x : Option V} {j : Nat} : ∀ {vs : List Nat}, j ∈ vs → L2.wipe ((L2.wipe σ vs).set j x) vs = L2.wipe σ vs := by
  intro vs hj
  apply List.ext_getElem?
  intro i
  by_cases hi : i ∈ vs
  · have h1 : ∀ (τ : L2.St), (L2.wipe τ vs)[i]? = if i < τ.length then some none else none := by
      intro τ
      clear hj
      induction vs with
      | nil => cases hi
      | cons v vs ih =>
        unfold L2.wipe
        by_cases e : v = i
        · subst e
          rw [List.getElem?_set]
          simp [wipe_length]
        · have hi' : i ∈ vs := by
            rcases List.mem_cons.mp hi with h | h
            · exact absurd h.symm e
            · exact h
          rw [List.getElem?_set_ne e, ih hi']
    rw [h1, h1]
    simp [wipe_length]
  · rw [wipe_out hi, wipe_out hi, List.getElem?_set_ne (show j ≠ i from fun e => hi (e ▸ hj)), wipe_out hi]
/-- the targets of a comprehension: their slots -/
inductive TgS (K : PySem.W.Frag) (vs : List Nat) : TG → Prop
  | name {i : Nat} : i ∈ vs → TgS K vs (gName i)
  | two {n i j : Nat} : i ∈ vs → j ∈ vs → TgS K vs (gTup K n (gCons (gName i) (gCons (gName j) gNil)))
  | three {n i j k : Nat} : i ∈ vs → j ∈ vs → k ∈ vs → TgS K vs (gTup K n (gCons (gName i) (gCons (gName j) (gCons (gName k) gNil))))
theorem wipe_set2 {σ : L2.St} {x y : Option V} {i j : Nat} {vs : List Nat} (hi : i ∈ vs) (hj : j ∈ vs) : L2.wipe (((L2.wipe σ vs).set i x).set j y) vs = L2.wipe σ vs := by
  apply List.ext_getElem?
  intro k
  by_cases hk : k ∈ vs
  · have h1 : ∀ (τ : L2.St), (L2.wipe τ vs)[k]? = if k < τ.length then some none else none := by
      intro τ
      clear hi hj
      induction vs with
      | nil => cases hk
      | cons v vs ih =>
        unfold L2.wipe
        by_cases e : v = k
        · subst e
          rw [List.getElem?_set]
          simp [wipe_length]
        · have hi' : k ∈ vs := by
            rcases List.mem_cons.mp hk with h | h
            · exact absurd h.symm e
            · exact h
          rw [List.getElem?_set_ne e, ih hi']
    rw [h1, h1]
    simp [wipe_length]
  · rw [wipe_out hk, wipe_out hk, List.getElem?_set_ne (show j ≠ k from fun e => hk (e ▸ hj)), List.getElem?_set_ne (show i ≠ k from fun e => hk (e ▸ hi)), wipe_out hk]
theorem wipe_set3 {σ : L2.St} {x y z : Option V} {i j l : Nat} {vs : List Nat} (hi : i ∈ vs) (hj : j ∈ vs) (hl : l ∈ vs) : L2.wipe ((((L2.wipe σ vs).set i x).set j y).set l z) vs = L2.wipe σ vs := by
  apply List.ext_getElem?
  intro k
  by_cases hk : k ∈ vs
  · have h1 : ∀ (τ : L2.St), (L2.wipe τ vs)[k]? = if k < τ.length then some none else none := by
      intro τ
      clear hi hj hl
      induction vs with
      | nil => cases hk
      | cons v vs ih =>
        unfold L2.wipe
        by_cases e : v = k
        · subst e
          rw [List.getElem?_set]
          simp [wipe_length]
        · have hi' : k ∈ vs := by
            rcases List.mem_cons.mp hk with h | h
            · exact absurd h.symm e
            · exact h
          rw [List.getElem?_set_ne e, ih hi']
    rw [h1, h1]
    simp [wipe_length]
  · rw [wipe_out hk, wipe_out hk, List.getElem?_set_ne (show l ≠ k from fun e => hk (e ▸ hl)), List.getElem?_set_ne (show j ≠ k from fun e => hk (e ▸ hj)), List.getElem?_set_ne (show i ≠ k from fun e => hk (e ▸ hi)), wipe_out hk]
theorem gw_of {t : TG} {g : DG} {vs : List Nat} (h : TgS K vs t) : GW t g vs := by
  intro v σ H Q Q' q k
  cases h with
  | name hi => exact k _ _ (wipe_set hi) q
  | two hi hj =>
    obtain ⟨a, xs, e, hq, hl, v1, r1, e1, v2, r2, e2, e3, q⟩ := q
    exact ⟨a, xs, e, hq, hl, v1, r1, e1, v2, r2, e2, e3, k _ _ (wipe_set2 hi hj) q⟩
  | three hi hj hk =>
    obtain ⟨a, xs, e, hq, hl, v1, r1, e1, v2, r2, e2, v3, r3, e3, e4, q⟩ := q
    exact ⟨a, xs, e, hq, hl, v1, r1, e1, v2, r2, e2, v3, r3, e3, e4, k _ _ (wipe_set3 hi hj hk) q⟩
theorem e_lc {fin : List W → Sto → Out W} {elt tg iter : Expr} {ifs : List Expr} {scope : Scope} {own : List (Str × Nat)} {pos : Pos} {g : DG} {t : TG} {di : DI} {dt : DT} {de : DE} {tt : TT} (hfin : FinOk X.K X.mg fin) (hc : X.calm = true) (hN : X.N.Nodup) (hi : JI X tg iter di Wx) (ok : blkC X.N X.env.scope scope own = true)
    (hg : ∀ (s : Shared) (H : Hp) (C : Addr) (cl : List (Str × Addr)) (fp : List Addr), PG (X.blk s H scope (compEnvC scope cl C X.env) fp) tg t) (ho : GOk X.K X.mg t g) (hw : TgS X.K (own.map (·.2)) t)
    (ht : ∀ (s : Shared) (H : Hp) (C : Addr) (cl : List (Str × Addr)) (fp : List Addr), PTs (X.blk s H scope (compEnvC scope cl C X.env) fp) ifs tt) (htt : ∀ σ H Q, tT X.K X.mg dt W0 σ H Q → tt σ H Q)
    (he : ∀ (s : Shared) (H : Hp) (C : Addr) (cl : List (Str × Addr)) (fp : List Addr), JE (X.blk s H scope (compEnvC scope cl C X.env) fp) elt de W0) (hs : ∀ x, foldedSetIterable iter X.env x = pure x := by intro _; rfl) :
    JE X (.ListComp elt [⟨tg, iter, ifs, 0⟩] scope pos) (dLcG fin (own.map (·.2)) g di dt de) Wx :=
  PE_imp (pe_lc hc hN hi (blkOk_by ok) hg ht he hs) fun σ H Q q => tLc_of hfin ho (gw_of hw) htt (fun _ _ _ q => q) q
theorem tt_yes (σ : L2.St) (H : Hp) (Q : Bool → Hp → Prop) (h : tT K mg dYes W0 σ H Q) : tYes σ H Q := by
  obtain ⟨G, A, F, ρ, S, rel, rs, sep, po⟩ := h
  exact po H G A .refl rel
/-- y = [..] on one line -/
theorem s_setLc {fin : List W → Sto → Out W} {i : Nat} {y : Str} {py : Pos} {elt tg iter : Expr} {ifs : List Expr} {scope : Scope} {own : List (Str × Nat)} {pos spos : Pos} {g : DG} {t : TG} {di : DI} {dt : DT} {de : DE} {tt : TT} (hfin : FinOk X.K X.mg fin) (hc : X.calm = true) (hN : X.N.Nodup) (hsw : swapsWith (.ListComp elt [⟨tg, iter, ifs, 0⟩] scope pos) (some (.Name y py)) spos.line X.env = pure true)
    (hi : JI X tg iter di Wx) (ok : blkC X.N X.env.scope scope own = true)
    (hg : ∀ (s : Shared) (H : Hp) (C : Addr) (cl : List (Str × Addr)) (fp : List Addr), PG (X.blk s H scope (compEnvC scope cl C X.env) fp) tg t) (ho : GOk X.K X.mg t g) (hw : TgS X.K (own.map (·.2)) t)
    (ht : ∀ (s : Shared) (H : Hp) (C : Addr) (cl : List (Str × Addr)) (fp : List Addr), PTs (X.blk s H scope (compEnvC scope cl C X.env) fp) ifs tt) (htt : ∀ σ H Q, tT X.K X.mg dt W0 σ H Q → tt σ H Q)
    (he : ∀ (s : Shared) (H : Hp) (C : Addr) (cl : List (Str × Addr)) (fp : List Addr), JE (X.blk s H scope (compEnvC scope cl C X.env) fp) elt de W0) (hy : X.N[i]? = some y := by rfl) (hyl : X.env.scope.names.lookup y = some .local := by rfl) (hs : ∀ x, foldedSetIterable iter X.env x = pure x := by intro _; rfl) :
    JS X en (.Assign [.Name y py] (.ListComp elt [⟨tg, iter, ifs, 0⟩] scope pos) spos) (dAsg i (dLcG fin (own.map (·.2)) g di dt de)) Wx := by
  refine PS_imp (L2.ps_setLc (te := tE X.K X.mg de W0) hc hN hy hyl hsw hi (blkOk_by ok) hg ht he hs) ?_
  rintro Dn σ H ⟨G, A, F, ρ, S, h, po⟩
  refine tLc_of hfin ho (gw_of hw) htt (fun _ _ _ q => q) ?_
  refine s_then h po fun w S1 v H1 G1 A1 F1 x r z s f h1 po1 => ?_
  obtain ⟨F', h2⟩ := h.set x r z s f i
  exact po1 _ H1 G1 A1 F' h2
end
end DL

set_option Elab.async false
set_option linter.all false
set_option maxRecDepth 100000
set_option maxHeartbeats 2000000
namespace DL
open PySem L2
/-! ### lists that a slot owns, or that the store holds, changed -/
def appW (i : Nat) (w : W) (ρ : Ev) (S : Sto) : SOut := match ρ[i]? with
  | some (some (.own ws)) => if ws.length < 1000000 then .nx (ρ.set i (some (.own (ws ++ [w])))) S else .bad
  | some (some (.loc n)) => (match S[n]? with
    | some (.lst ws) => if ws.length < 1000000 ∧ isStab w = true then .nx ρ (S.set n (.lst (ws ++ [w]))) else .bad
    | _ => .bad)
  | _ => .bad
def isLst (i : Nat) (ρ : Ev) (S : Sto) : Bool := match ρ[i]? with
  | some (some (.own _)) => true
  | some (some (.loc n)) => (match S[n]? with
    | some (.lst _) => true
    | _ => false)
  | _ => false
def dApp (i : Nat) (e : DE) : DS := fun ρ S => if isLst i ρ S = true then sb (e ρ S) ρ fun w S1 => appW i w ρ S1 else .bad
def setW (i : Nat) (w : W) (y : W) (ρ : Ev) (S : Sto) : SOut := match y, ρ[i]? with
  | .d (.int k), some (some (.own ws)) => (match ixN ws.length k with
    | some j => .nx (ρ.set i (some (.own (ws.set j w)))) S
    | none => .bad)
  | .d (.int k), some (some (.loc n)) => (match S[n]? with
    | some (.lst ws) => (match ixN ws.length k with
      | some j => if isStab w = true then .nx ρ (S.set n (.lst (ws.set j w))) else .bad
      | none => .bad)
    | _ => .bad)
  | _, _ => .bad
def dSetI (i : Nat) (b e : DE) : DS := fun ρ S => sb (e ρ S) ρ fun w S1 => if isLst i ρ S1 = true then sb (b ρ S1) ρ fun y S2 => setW i w y ρ S2 else .bad
def dAug (i : Nat) (f : D → D → Option D) (e : DE) : DS := fun ρ S => match ρ[i]? with
  | some (some (.d x)) => sb (e ρ S) ρ fun w S1 => match w with
    | .d y => (match f x y with
      | some z => .nx (ρ.set i (some (.d z))) S1
      | none => .bad)
    | _ => .bad
  | _ => .bad
def fIAdd : D → D → Option D
  | .int i, .int j => some (.int (i + j))
  | _, _ => none
/-- ghost: the list of slot i goes into the store -/
def dLoc (i : Nat) : DS := fun ρ S => match ρ[i]? with
  | some (some (.own ws)) => if ws.all isStab = true then .nx (ρ.set i (some (.loc S.length))) (S ++ [.lst ws]) else .bad
  | _ => .bad
section
variable {K : PySem.W.Frag} {mg : Str → Option Value} {X : Cx} {Wx : WX} {en : En}
theorem upk {H : Hp} {a b : Addr} {o u : HO} (ne : b ≠ a) (h : H b = some u) : upd H a o b = some u := by rw [upd_ne ne]; exact h
/-- slot i with what it owns, and the others -/
theorem RS.pick {H G : Hp} {A : List Addr} {σ : L2.St} {ρ : Ev} {F : List Addr} {i : Nat} {w : W} (r : RS K mg H G A σ ρ F) : ρ[i]? = some (some w) → F.Nodup →
    ∃ v Fi, σ[i]? = some (some v) ∧ RW K mg H G A v w Fi ∧ (∀ a ∈ Fi, a ∈ F) ∧ Fi.Nodup ∧
      ∀ H' G' A' w' F1, (∀ b ∈ F, b ∉ Fi → ∀ o, H b = some o → H' b = some o) → Same G G' → (∃ Y, A' = A ++ Y) → RW K mg H' G' A' v w' F1 → (∀ a ∈ F1, a ∈ Fi ∨ a ∉ F) → F1.Nodup → ∃ F', RS K mg H' G' A' σ (ρ.set i (some w')) F' ∧ F'.Nodup ∧ ∀ a ∈ F', a ∈ F1 ∨ (a ∈ F ∧ a ∉ Fi) := by
  induction r generalizing i with
  | nil => intro h; simp at h
  | @skip o σ ρ F r ih =>
    intro h nd
    cases i with
    | zero => simp at h
    | succ i =>
      obtain ⟨v, Fi, h1, h2, h3, h4, k⟩ := ih (by simpa using h) nd
      refine ⟨v, Fi, by simpa using h1, h2, h3, h4, fun H' G' A' w' F1 a b c d e f => ?_⟩
      obtain ⟨F', q1, q2, q3⟩ := k H' G' A' w' F1 a b c d e f
      exact ⟨F', .skip q1, q2, q3⟩
  | @slot v0 w0 σ ρ F0 F r0 r ih =>
    intro h nd
    obtain ⟨n1, n2, n3⟩ := List.nodup_append.mp nd
    cases i with
    | zero =>
      simp at h
      subst h
      refine ⟨v0, F0, by simp, r0, fun a m => List.mem_append_left _ m, n1, fun H' G' A' w' F1 a b c d e f => ?_⟩
      refine ⟨F1 ++ F, .slot d (r.frame b c fun x m o hx => a x (List.mem_append_right _ m) (fun m' => n3 x m' x m rfl) o hx), List.nodup_append.mpr ⟨f, n2, fun x m y m' exy => ?_⟩, fun x m => ?_⟩
      · subst exy
        rcases e x m with q | q
        · exact n3 x q x m' rfl
        · exact q (List.mem_append_right _ m')
      · rcases List.mem_append.mp m with m | m
        · exact .inl m
        · exact .inr ⟨List.mem_append_right _ m, fun m' => n3 x m' x m rfl⟩
    | succ i =>
      obtain ⟨v, Fi, h1, h2, h3, h4, k⟩ := ih (by simpa using h) n2
      refine ⟨v, Fi, by simpa using h1, h2, fun a m => List.mem_append_right _ (h3 a m), h4, fun H' G' A' w' F1 a b c d e f => ?_⟩
      obtain ⟨F', q1, q2, q3⟩ := k H' G' A' w' F1 (fun x m => a x (List.mem_append_right _ m)) b c d (fun x m => (e x m).imp id fun q m' => q (List.mem_append_right _ m')) f
      refine ⟨F0 ++ F', .slot (r0.frame b c fun x m o hx => a x (List.mem_append_left _ m) (fun m' => n3 x m x (h3 x m') rfl) o hx) q1, List.nodup_append.mpr ⟨n1, q2, fun x m y m' exy => ?_⟩, fun x m => ?_⟩
      · subst exy
        rcases q3 x m' with q | q
        · rcases e x q with z | z
          · exact n3 x m x (h3 x z) rfl
          · exact z (List.mem_append_left _ m)
        · exact n3 x m x q.1 rfl
      · rcases List.mem_append.mp m with m | m
        · exact .inr ⟨List.mem_append_left _ m, fun m' => n3 x m x (h3 x m') rfl⟩
        · rcases q3 x m with q | q
          · exact .inl q
          · exact .inr ⟨List.mem_append_right _ q.1, q.2⟩
/-- an object that is neither frozen nor in the store is changed -/
theorem Rel.mut {H G : Hp} {A : List Addr} {S : Sto} {a : Addr} {o : HO} (r : Rel K mg H G A S) (g : G a = none) (n : a ∉ A) : Rel K mg (upd H a o) G A S where
  ext := fun b u h => upk (fun e => by rw [e, g] at h; cases h) (r.ext b u h)
  len := r.len
  nd := r.nd
  cell := fun m b c h1 h2 => cell_mono (fun u h => upk (fun e => by subst e; exact n (List.mem_of_getElem? h1)) h) (Same.refl _) ⟨[], by simp⟩ (r.cell m b c h1 h2)
  out := fun b m => by
    obtain ⟨h1, u, h2⟩ := r.out b m
    exact ⟨h1, u, upk (fun e => by subst e; exact n m) h2⟩
theorem Ext.mut {H G H' G' : Hp} {A A' : List Addr} {a : Addr} {o : HO} (x : Ext H G A H' G' A') (h : H a = none) : Ext H G A (upd H' a o) G' A' where
  g := x.g
  a := x.a
  keep := fun b u q n => upk (fun e => by rw [e, h] at q; cases q) (x.keep b u q n)
  live := fun b u q => by
    obtain ⟨o', q'⟩ := x.live b u q
    exact ⟨o', upk (fun e => by rw [e, h] at q; cases q) q'⟩
  new := x.new
  newA := x.newA
/-- slot i's own list is changed: its address a, its new items -/
theorem SR.own {σ : L2.St} {ρ : Ev} {H G : Hp} {A F : List Addr} {S : Sto} {i : Nat} {ws ws' : List W} (h : SR K mg en σ ρ H G A F S) (hi : ρ[i]? = some (some (.own ws))) :
    ∃ a vs F0, σ[i]? = some (some (.ref a)) ∧ H a = some (.lst vs) ∧ RWs K mg H G A vs ws F0 ∧ Sep (a :: F0) G A ∧ (∀ b ∈ a :: F0, b ∈ F) ∧
      ∀ vs' F1, RWs K mg H G A vs' ws' F1 → (∀ b ∈ F1, b ∈ F0 ∨ b ∉ F) → F1.Nodup → (∀ b ∈ F1, G b = none ∧ b ∉ A ∧ en.H b = none) → ∃ F', SR K mg en σ (ρ.set i (some (.own ws'))) (upd H a (.lst vs')) G A F' S := by
  obtain ⟨v, Fi, h1, h2, h3, h4, k⟩ := h.rs.pick hi h.sep.nd
  cases h2 with
  | @own a vs ws F0 ho hw =>
    have nd := List.nodup_cons.mp h4
    have ha := h.sep.out a (h3 a List.mem_cons_self)
    refine ⟨a, vs, F0, h1, ho, hw, ⟨h4, fun b m => h.sep.out b (h3 b m)⟩, h3, fun vs' F1 r q1 q2 q3 => ?_⟩
    have naF1 : a ∉ F1 := fun m => by
      rcases q1 a m with z | z
      · exact nd.1 z
      · exact z (h3 a List.mem_cons_self)
    have r' : RWs K mg (upd H a (.lst vs')) G A vs' ws' F1 := r.frame (Same.refl _) ⟨[], by simp⟩ fun b m o hb => upk (fun e => by subst e; exact naF1 m) hb
    obtain ⟨F', z1, z2, z3⟩ := k (upd H a (.lst vs')) G A (.own ws') (a :: F1) (fun b m nb o hb => upk (fun e => by subst e; exact nb List.mem_cons_self) hb) (Same.refl _) ⟨[], by simp⟩ (.own upd_same r') (fun b m => by
      rcases List.mem_cons.mp m with rfl | m
      · exact .inl List.mem_cons_self
      · exact (q1 b m).imp (fun z => List.mem_cons_of_mem _ z) id) (List.nodup_cons.mpr ⟨naF1, q2⟩)
    have all : ∀ b ∈ F', G b = none ∧ b ∉ A ∧ en.H b = none := fun b m => by
      rcases z3 b m with q | q
      · rcases List.mem_cons.mp q with rfl | q
        · exact ⟨ha.1, ha.2, h.young _ (h3 _ List.mem_cons_self)⟩
        · exact q3 b q
      · exact ⟨(h.sep.out b q.1).1, (h.sep.out b q.1).2, h.young b q.1⟩
    exact ⟨F', h.rel.mut ha.1 ha.2, z1, ⟨z2, fun b m => ⟨(all b m).1, (all b m).2.1⟩⟩, h.ext.mut (h.young a (h3 a List.mem_cons_self)), fun b m => (all b m).2.2, h.low⟩
/-- a list of the store is changed -/
theorem RW.rl {H G : Hp} {A F : List Addr} {v : V} {w : W} (r : RW K mg H G A v w F) (h : isStab w = true) : RL K mg G A v w := by
  cases r with
  | d r => exact .d r
  | loc r => exact .loc r
  | own _ _ => cases h
theorem RLs.app {G : Hp} {A : List Addr} {v : V} {w : W} (h : RL K mg G A v w) : ∀ {vs : List V} {ws : List W}, RLs K mg G A vs ws → RLs K mg G A (vs ++ [v]) (ws ++ [w])
  | _, _, .nil => .cons h .nil
  | _, _, .cons q r => .cons q (RLs.app h r)
theorem RLs.set {G : Hp} {A : List Addr} {v : V} {w : W} (h : RL K mg G A v w) : ∀ {vs : List V} {ws : List W} (j : Nat), RLs K mg G A vs ws → RLs K mg G A (vs.set j v) (ws.set j w)
  | _, _, _, .nil => .nil
  | _, _, 0, .cons _ r => .cons h r
  | _, _, j + 1, .cons q r => .cons q (RLs.set h j r)
theorem nodup_get {l : List Addr} (h : l.Nodup) {i j : Nat} {a : Addr} (hi : l[i]? = some a) (hj : l[j]? = some a) : i = j := by
  obtain ⟨h1, e1⟩ := List.getElem?_eq_some_iff.mp hi
  obtain ⟨h2, e2⟩ := List.getElem?_eq_some_iff.mp hj
  exact (List.getElem_inj h).mp (e1.trans e2.symm)
theorem Rel.cellset {H G : Hp} {A : List Addr} {S : Sto} {n : Nat} {a : Addr} {vs : List V} {ws : List W} (r : Rel K mg H G A S) (ha : A[n]? = some a) (q : RLs K mg G A vs ws) : Rel K mg (upd H a (.lst vs)) G A (S.set n (.lst ws)) where
  ext := fun b u h => upk (fun e => by rw [e, (r.out a (List.mem_of_getElem? ha)).1] at h; cases h) (r.ext b u h)
  len := by rw [List.length_set]; exact r.len
  nd := r.nd
  cell := fun m b c h1 h2 => by
    by_cases e : m = n
    · subst e
      rw [ha] at h1; cases h1
      have hl : m < S.length := by rw [← r.len]; exact (List.getElem?_eq_some_iff.mp ha).1
      rw [List.getElem?_set_self hl] at h2
      cases h2
      exact ⟨vs, upd_same, q⟩
    · rw [List.getElem?_set_ne (Ne.symm e)] at h2
      exact cell_mono (fun u h => upk (fun z => by subst z; exact e (nodup_get r.nd h1 ha)) h) (Same.refl _) ⟨[], by simp⟩ (r.cell m b c h1 h2)
  out := fun b m => by
    obtain ⟨h1, u, h2⟩ := r.out b m
    refine ⟨h1, ?_⟩
    by_cases e : b = a
    · subst e; exact ⟨_, upd_same⟩
    · exact ⟨u, upk e h2⟩
theorem Ext.cell {H G : Hp} {A : List Addr} {a : Addr} {o : HO} (m : a ∈ A) : Ext H G A (upd H a o) G A where
  g := Same.refl _
  a := ⟨[], by simp⟩
  keep := fun b u h n => upk (fun e => by subst e; exact n m) h
  live := fun b u h => by
    by_cases e : b = a
    · subst e; exact ⟨_, upd_same⟩
    · exact ⟨u, upk e h⟩
  new := fun b u g _ => g
  newA := fun b m n => absurd m n
theorem fresh_not {σ : L2.St} {ρ : Ev} {H G H1 G1 : Hp} {A A1 F F1 : List Addr} {S : Sto} (h : SR K mg en σ ρ H G A F S) (f : ∀ a ∈ F1, H a = none) : ∀ b ∈ F1, b ∉ F := fun b m m' => by
  obtain ⟨o, z⟩ := h.rs.there b m'
  rw [f b m] at z; cases z
theorem line_m {n : Nat} (h : n < 1000000) : n < sizeLine := Nat.lt_of_lt_of_le h (by decide)
theorem appW_ok {σ : L2.St} {ρ : Ev} {H G H1 G1 : Hp} {A A1 F F1 : List Addr} {S S1 : Sto} {Dn : Ends} {i : Nat} {v : V} {w : W} (h : SR K mg en σ ρ H G A F S) (x : Ext H G A H1 G1 A1) (h1 : SR K mg en σ ρ H1 G1 A1 F S1) (z : RW K mg H1 G1 A1 v w F1) (s : Sep F1 G1 A1) (f : ∀ a ∈ F1, H a = none) (po : PostS K mg en Wx Dn (appW i w ρ S1)) :
    ∃ a vs, σ[i]? = some (some (.ref a)) ∧ H1 a = some (.lst vs) ∧ vs.length < sizeLine ∧ Dn.nx σ (upd H1 a (.lst (vs ++ [v]))) := by
  unfold appW at po
  split at po
  · rename_i ws e
    split at po
    · rename_i hl
      obtain ⟨a, vs, F0, k1, k2, k3, k4, k5, k6⟩ := h1.own (ws' := ws ++ [w]) e
      have nF := fresh_not (H1 := H1) (G1 := G1) (A1 := A1) h f
      obtain ⟨F', h2⟩ := k6 (vs ++ [v]) (F0 ++ F1) (RWs.snoc z k3) (fun b m => (List.mem_append.mp m).imp id fun m => nF b m) (List.nodup_append.mpr ⟨(List.nodup_cons.mp k4.nd).2, s.nd, fun b m c m' ebc => nF c m' (ebc ▸ k5 b (List.mem_cons_of_mem _ m))⟩) (fun b m => by
        rcases List.mem_append.mp m with m | m
        · exact ⟨(k4.out b (List.mem_cons_of_mem _ m)).1, (k4.out b (List.mem_cons_of_mem _ m)).2, h1.young b (k5 b (List.mem_cons_of_mem _ m))⟩
        · exact ⟨(s.out b m).1, (s.out b m).2, fresh_from h.ext (f b m)⟩)
      exact ⟨a, vs, k1, k2, line_m (by rw [k3.len]; exact hl), po _ _ _ _ F' h2⟩
    · exact po.elim
  · rename_i n e
    split at po
    · rename_i ws ec
      split at po
      · rename_i hl
        obtain ⟨v', F0, k1, k2, k3⟩ := h1.rs.get e
        cases k2 with
        | loc ha =>
          obtain ⟨vs, c1, c2⟩ := h1.rel.cell _ _ _ ha ec
          have hl' := Paired.length c2
          exact ⟨_, vs, k1, c1, line_m (by omega), po _ _ _ _ F (h1.step (.cell (List.mem_of_getElem? ha)) (h1.rel.cellset ha (RLs.app (z.rl hl.2) c2)))⟩
      · exact po.elim
    · exact po.elim
  · exact po.elim
theorem lst_ty {σ : L2.St} {ρ : Ev} {H G : Hp} {A F : List Addr} {S : Sto} {i : Nat} (h : SR K mg en σ ρ H G A F S) (hl : isLst i ρ S = true) : ∃ v, σ[i]? = some (some v) ∧ tyV K "list" v H := by
  unfold isLst at hl
  split at hl
  · rename_i ws e
    obtain ⟨v, F1, h1, h2, h3⟩ := h.rs.get e
    cases h2 with
    | own ho hw => exact ⟨_, h1, .inl ⟨rfl, _, SqL.of ho⟩⟩
  · rename_i n e
    split at hl
    · rename_i ws ec
      obtain ⟨v, F1, h1, h2, h3⟩ := h.rs.get e
      cases h2 with
      | loc ha =>
        obtain ⟨vs, c1, c2⟩ := h.rel.cell _ _ _ ha ec
        exact ⟨_, h1, .inl ⟨rfl, _, SqL.of c1⟩⟩
    · cases hl
  · cases hl
theorem mtm {id : String} {r : V → List V → Hp → VK → Prop} (h : MtM X id r) : MtR X id r := h
theorem s_app {i : Nat} {x : Str} {e : Expr} {p ap cp pos : Pos} {de : DE} (he : JE X e de Wx) (hN : X.N[i]? = some x := by rfl) (hv : Vis X.env.scope x := by first | exact Or.inl rfl | exact Or.inr (Or.inl rfl) | exact Or.inr (Or.inr rfl)) (hd : (x == ("__debug__" : Str)) = false := by decide)
    (hcd : (x == ("__classdict__" : Str)) = false := by decide)
    (hbase : attributeBase (.Name x p) "append" X.env (eval (.Name x p) X.env) = eval (.Name x p) X.env := by rfl)
    (hfew : ((backTo cp (starEach (e :: []) X.env)).all (fun x => !x.1) && (backToKw cp (keywordEach [] X.env)).all (fun x => x.1.isSome)
      && decide ((e :: []).length + ([] : List Keyword).length + (if ([] : List Keyword).isEmpty then 0 else 1) < 30)) = true := by rfl)
    (hline : (ap.endLine == cp.line) = true := by rfl) (hs : starEach (e :: []) X.env = (false, eval e X.env) :: starEach [] X.env := by rfl) (hplain : (backTo cp (starEach [] X.env)).any (·.1) = false := by rfl)
    (hsw : swapsWith (.Call (.Attribute (.Name x p) "append" ap) [e] [] cp) none pos.line X.env = pure false := by rfl) : JS X en (.Expr (.Call (.Attribute (.Name x p) "append" ap) [e] [] cp) pos) (dApp i de) Wx := by
  refine PS_imp (ps_expr (pe_bm PySem.F.plainAttrs_list PySem.F.slot_list_append PySem.F.type_list_append (mtm mt_append) (pe_var hN hv hd hcd) (pa_cons he pa_nil hs) hbase hfew hline hs hplain) hsw) ?_
  rintro Dn σ H ⟨G, A, F, ρ, S, h, po⟩
  unfold dApp at po
  split at po
  · rename_i hl
    obtain ⟨v, h1, h2⟩ := lst_ty h hl
    refine ⟨v, h1, h2, ?_⟩
    refine s_then h po fun w S1 y H1 G1 A1 F1 x r z s f h' po1 => ?_
    obtain ⟨a, vs, k1, k2, k3, k4⟩ := appW_ok h x h' z s f po1
    rw [h1] at k1
    cases k1
    exact ⟨a, vs, y, rfl, rfl, k2, k3, k4⟩
  · exact po.elim
theorem RWs.setAt {H G : Hp} {A : List Addr} {v : V} {w : W} {F1 : List Addr} (h : RW K mg H G A v w F1) : ∀ {vs : List V} {ws : List W} {F : List Addr} (j : Nat), RWs K mg H G A vs ws F → F.Nodup → F1.Nodup → (∀ a ∈ F1, a ∉ F) →
    ∃ F', RWs K mg H G A (vs.set j v) (ws.set j w) F' ∧ F'.Nodup ∧ ∀ a ∈ F', a ∈ F1 ∨ a ∈ F
  | _, _, _, _, .nil, _, _, _ => ⟨[], .nil, .nil, fun _ m => nomatch m⟩
  | _, _, _, 0, .cons (F := Fa) (F' := Fb) q r, n, n1, d => by
    obtain ⟨a1, a2, a3⟩ := List.nodup_append.mp n
    refine ⟨F1 ++ Fb, .cons h r, List.nodup_append.mpr ⟨n1, a2, fun x m y m' e => d x m (by subst e; exact List.mem_append_right _ m')⟩, fun x m => ?_⟩
    exact (List.mem_append.mp m).imp id fun m => List.mem_append_right _ m
  | _, _, _, j + 1, .cons (F := Fa) (F' := Fb) q r, n, n1, d => by
    obtain ⟨a1, a2, a3⟩ := List.nodup_append.mp n
    obtain ⟨F', h1, h2, h3⟩ := RWs.setAt h j r a2 n1 fun a m m' => d a m (List.mem_append_right _ m')
    refine ⟨Fa ++ F', .cons q h1, List.nodup_append.mpr ⟨a1, h2, fun x m y m' e => ?_⟩, fun x m => ?_⟩
    · subst e
      rcases h3 x m' with z | z
      · exact d x z (List.mem_append_left _ m)
      · exact a3 x m x z rfl
    · rcases List.mem_append.mp m with m | m
      · exact .inr (List.mem_append_left _ m)
      · exact (h3 x m).imp id fun m => List.mem_append_right _ m
theorem setW_ok {σ : L2.St} {ρ : Ev} {H G H1 G1 : Hp} {A A1 F F1 F2 : List Addr} {S S1 : Sto} {Dn : Ends} {i : Nat} {v u : V} {w y : W} (h : SR K mg en σ ρ H G A F S) (h1 : SR K mg en σ ρ H1 G1 A1 F S1) (z : RW K mg H1 G1 A1 v w F1) (s : Sep F1 G1 A1) (f : ∀ a ∈ F1, H a = none) (zy : RW K mg H1 G1 A1 u y F2) (po : PostS K mg en Wx Dn (setW i w y ρ S1)) :
    ∃ a vs k j, σ[i]? = some (some (.ref a)) ∧ u = .int k ∧ H1 a = some (.lst vs) ∧ ixN vs.length k = some j ∧ Dn.nx σ (upd H1 a (.lst (vs.set j v))) := by
  unfold setW at po
  split at po
  · rename_i k ws e
    split at po
    · rename_i j ej
      obtain ⟨a, vs, F0, k1, k2, k3, k4, k5, k6⟩ := h1.own (ws' := ws.set j w) e
      have nF := fresh_not (H1 := H1) (G1 := G1) (A1 := A1) h f
      obtain ⟨Fs, s1, s2, s3⟩ := RWs.setAt z j k3 (List.nodup_cons.mp k4.nd).2 s.nd fun a m m' => nF a m (k5 a (List.mem_cons_of_mem _ m'))
      obtain ⟨F', h2⟩ := k6 (vs.set j v) Fs s1 (fun b m => (s3 b m).elim (fun q => .inr (nF b q)) .inl) s2 (fun b m => by
        rcases s3 b m with m | m
        · exact ⟨(s.out b m).1, (s.out b m).2, fresh_from h.ext (f b m)⟩
        · exact ⟨(k4.out b (List.mem_cons_of_mem _ m)).1, (k4.out b (List.mem_cons_of_mem _ m)).2, h1.young b (k5 b (List.mem_cons_of_mem _ m))⟩)
      cases zy with
      | d q =>
        cases q
        exact ⟨a, vs, _, j, k1, rfl, k2, by rw [k3.len]; exact ej, po _ _ _ _ F' h2⟩
    · exact po.elim
  · rename_i k n e
    split at po
    · rename_i ws ec
      split at po
      · rename_i j ej
        split at po
        · rename_i hst
          obtain ⟨v', F0, k1, k2, k3⟩ := h1.rs.get e
          cases k2 with
          | loc ha =>
            obtain ⟨vs, c1, c2⟩ := h1.rel.cell _ _ _ ha ec
            cases zy with
            | d q =>
              cases q
              exact ⟨_, vs, _, j, k1, rfl, c1, by rw [Paired.length c2]; exact ej, po _ _ _ _ F (h1.step (.cell (List.mem_of_getElem? ha)) (h1.rel.cellset ha (RLs.set (z.rl hst) j c2)))⟩
        · exact po.elim
      · exact po.elim
    · exact po.elim
  · exact po.elim
/-- x[b] = e, x a name -/
theorem s_setI {i : Nat} {x : Str} {e b : Expr} {p tp pos : Pos} {de db : DE} (he : JE X e de Wx) (hb : JE X b db Wx) (hN : X.N[i]? = some x := by rfl) (hv : Vis X.env.scope x := by first | exact Or.inl rfl | exact Or.inr (Or.inl rfl) | exact Or.inr (Or.inr rfl)) (hd : (x == ("__debug__" : Str)) = false := by decide)
    (hcd : (x == ("__classdict__" : Str)) = false := by decide)
    (ha : ∀ v, assign (.Subscript (.Name x p) b tp) X.env v = (do
      let ov ← holding [v] (eval (.Name x p) X.env)
      let iv ← holding [v, ov] (eval b X.env)
      standAt tp
      holding [v, ov, iv] (setItem ov iv v)
      release [v, ov, iv] []) := by intro _; rfl)
    (hs : swapsWithSole [.Subscript (.Name x p) b tp] e pos.line X.env = pure false := by rfl) (hw : swappedStores [.Subscript (.Name x p) b tp] e X.env = pure none := by rfl)
    (h1 : (assignEach [.Subscript (.Name x p) b tp] X.env).map (·.2) = [assign (.Subscript (.Name x p) b tp) X.env] := by rfl) : JS X en (.Assign [.Subscript (.Name x p) b tp] e pos) (dSetI i db de) Wx := by
  refine PS_imp (ps_asg he (pg_sub (pe_var hN hv hd hcd) hb set_list ha) hs hw h1) ?_
  rintro Dn σ H ⟨G, A, F, ρ, S, h, po⟩
  refine s_then h po fun w S1 v H1 G1 A1 F1 x1 r1 z1 s1 f1 h1 po1 => ?_
  split at po1
  rotate_left
  · exact po1.elim
  rename_i hl
  obtain ⟨vo, ho, _⟩ := lst_ty h1 hl
  refine ⟨vo, ho, ?_⟩
  refine s_then h1 po1 fun y S2 u H2 G2 A2 F2 x2 r2 z2 s2 f2 h2 po2 => ?_
  obtain ⟨a, vs, k, j, k1, k2, k3, k4, k5⟩ := setW_ok h h2 (x2.rw z1 s1) (x2.sep s1 z1.there) f1 z2 po2
  rw [ho] at k1
  cases k1
  exact ⟨a, vs, k, j, rfl, k2, k3, k4, k5⟩
/-- x op= e -/
theorem s_aug {i : Nat} {x : Str} {e : Expr} {op : Operator} {ti : TIp} {f : D → D → Option D} {p pos : Pos} {de : DE} (hN0 : X.N.Nodup) (he : JE X e de Wx) (ho : PIp X op ti) (hf : OpD X.K X.mg ti f) (hN : X.N[i]? = some x := by rfl) (hx : Loc X.env.scope x := by first | exact Or.inl rfl | exact Or.inr rfl)
    (hfn : X.fn x = true ∨ X.env.scope.names.lookup x = some .local := by first | exact .inl rfl | exact .inr rfl) : JS X en (.AugAssign (.Name x p) op e pos) (dAug i f de) Wx := by
  refine PS_imp (ps_aug hN0 hN hx he ho hfn) ?_
  rintro Dn σ H ⟨G, A, F, ρ, S, h, po⟩
  unfold dAug at po
  split at po
  · rename_i x0 e0
    obtain ⟨v, F0, k1, k2, k3⟩ := h.rs.get e0
    refine ⟨v, k1, ?_⟩
    refine s_then h po fun w S1 y H1 G1 A1 F1 x1 r1 z1 s1 f1 h1 po1 => ?_
    split at po1
    · rename_i y0
      split at po1
      · rename_i z0 ez
        cases k2 with
        | d q0 =>
          cases z1 with
          | d q1 =>
            refine hf r1 (q0.mono x1.g) q1 ez fun u H2 G2 x2 r2 rv => ?_
            obtain ⟨F', h2⟩ := h1.set x2 r2 (.d rv) .nil (fun _ m => nomatch m) i
            exact po1 _ H2 G2 A1 F' h2
      · exact po1.elim
    · exact po1.elim
  · exact po.elim
theorem od_iadd : OpD K mg (ipI fun i j => i + j) fIAdd := by
  intro v u x y z H G A S Q rel rx ry e k
  cases x <;> cases y <;> try (exact no_some e)
  cases rx; cases ry
  cases e
  exact ⟨_, _, rfl, rfl, rel.nochange k (.int _)⟩
theorem od_isub : OpD K mg (ipI fun i j => i - j) fSub := by
  intro v u x y z H G A S Q rel rx ry e k
  cases x <;> cases y <;> try (exact no_some e)
  cases rx; cases ry
  cases e
  exact ⟨_, _, rfl, rfl, rel.nochange k (.int _)⟩
/-- a list that was a slot's own goes into the store -/
theorem RS.grow {H G : Hp} {A : List Addr} {a : Addr} {σ : L2.St} {ρ : Ev} {F : List Addr} (r : RS K mg H G A σ ρ F) : RS K mg H G (A ++ [a]) σ ρ F := r.frame (Same.refl _) ⟨[a], rfl⟩ fun _ _ _ h => h
theorem RWs.rls {H G : Hp} {A : List Addr} : ∀ {vs : List V} {ws : List W} {F : List Addr}, RWs K mg H G A vs ws F → ws.all isStab = true → RLs K mg G A vs ws
  | _, _, _, .nil, _ => .nil
  | _, _, _, .cons h r, e => by
    rw [List.all_cons, Bool.and_eq_true] at e
    exact .cons (h.rl e.1) (RWs.rls r e.2)
theorem SR.loc {σ : L2.St} {ρ : Ev} {H G : Hp} {A F : List Addr} {S : Sto} {i : Nat} {ws : List W} (h : SR K mg en σ ρ H G A F S) (hi : ρ[i]? = some (some (.own ws))) (hst : ws.all isStab = true) :
    ∃ A' F', SR K mg en σ (ρ.set i (some (.loc S.length))) H G A' F' (S ++ [.lst ws]) := by
  obtain ⟨v, Fi, h1, h2, h3, h4, k⟩ := h.rs.pick hi h.sep.nd
  cases h2 with
  | @own a vs ws F0 ho hw =>
    have hF0 := hw.stab hst
    subst hF0
    have ha := h.sep.out a (h3 a List.mem_cons_self)
    have nA : a ∉ A := ha.2
    have lenA := h.rel.len
    have gA : (A ++ [a])[S.length]? = some a := by rw [← lenA]; simp
    obtain ⟨F', z1, z2, z3⟩ := k H G (A ++ [a]) (.loc S.length) [] (fun b _ _ o hb => hb) (Same.refl _) ⟨[a], rfl⟩ (.loc gA) (fun b m => nomatch m) .nil
    have nF' : ∀ b ∈ F', b ∈ F ∧ b ≠ a := fun b m => by
      rcases z3 b m with q | q
      · cases q
      · exact ⟨q.1, fun e => q.2 (by subst e; exact List.mem_cons_self)⟩
    refine ⟨A ++ [a], F', ⟨?_, z1, ⟨z2, fun b m => ?_⟩, ?_, fun b m => h.young b (nF' b m).1, h.low⟩⟩
    · refine ⟨h.rel.ext, by simp [lenA], List.nodup_append.mpr ⟨h.rel.nd, by simp, fun x m y m' e => ?_⟩, fun n b c c1 c2 => ?_, fun b m => ?_⟩
      · rcases List.mem_singleton.mp m' with rfl
        subst e
        exact nA m
      · by_cases hn : n < S.length
        · rw [List.getElem?_append_left (by rw [lenA]; exact hn)] at c1
          rw [List.getElem?_append_left hn] at c2
          exact cell_mono (fun _ q => q) (Same.refl _) ⟨[a], rfl⟩ (h.rel.cell n b c c1 c2)
        · have e : n = S.length := by
            have := (List.getElem?_eq_some_iff.mp c2).1
            rw [List.length_append] at this
            simp at this
            omega
          subst e
          rw [gA] at c1
          cases c1
          simp at c2
          subst c2
          exact ⟨vs, ho, (hw.rls hst).mono (Same.refl _) ⟨[a], rfl⟩⟩
      · rcases List.mem_append.mp m with m | m
        · exact h.rel.out b m
        · rcases List.mem_singleton.mp m with rfl
          exact ⟨ha.1, _, ho⟩
    · have := nF' b m
      refine ⟨(h.sep.out b this.1).1, fun q => ?_⟩
      rcases List.mem_append.mp q with q | q
      · exact (h.sep.out b this.1).2 q
      · exact this.2 (List.mem_singleton.mp q)
    · obtain ⟨Y, hY⟩ := h.ext.a
      refine ⟨h.ext.g, ⟨Y ++ [a], by rw [hY, List.append_assoc]⟩, h.ext.keep, h.ext.live, h.ext.new, fun b m n => ?_⟩
      rcases List.mem_append.mp m with m | m
      · exact h.ext.newA b m n
      · rcases List.mem_singleton.mp m with rfl
        exact h.young _ (h3 _ List.mem_cons_self)
theorem b_loc {sts : List Stmt} {i : Nat} {d : DS} (h : JB X en sts d Wx) : JB X en sts (dSeq (dLoc i) d) Wx := by
  refine PSs_imp h ?_
  rintro Dn σ H ⟨G, A, F, ρ, S, h, po⟩
  unfold dSeq dLoc at po
  split at po
  · rename_i ws e
    split at po
    · rename_i hst
      obtain ⟨A', F', h'⟩ := h.loc e hst
      exact ⟨G, A', F', _, _, h', po⟩
    · exact po.elim
  · exact po.elim
end
end DL

set_option Elab.async false
set_option linter.all false
set_option maxRecDepth 100000
set_option maxHeartbeats 4000000
/-! denotations, reckoned -/
namespace DL
open PySem L2
section
variable {ρ : Ev} {S : Sto}
@[simp] theorem ob_ok {α β : Type} (a : α) (S : Sto) (f : α → Sto → Out β) : (Out.ok a S).bind f = f a S := (rfl)
@[simp] theorem ob_ex {α β : Type} (e : Exn) (S : Sto) (f : α → Sto → Out β) : (Out.ex e S).bind f = .ex e S := (rfl)
@[simp] theorem ob_bad {α β : Type} (f : α → Sto → Out β) : (Out.bad).bind f = .bad := (rfl)
@[simp] theorem q_nx (ρ : Ev) (S : Sto) (k) : (SOut.nx ρ S).seq k = k ρ S := (rfl)
@[simp] theorem q_rt (w : W) (S : Sto) (k) : (SOut.rt w S).seq k = .rt w S := (rfl)
@[simp] theorem q_bk (ρ : Ev) (S : Sto) (k) : (SOut.bk ρ S).seq k = .bk ρ S := (rfl)
@[simp] theorem q_ct (ρ : Ev) (S : Sto) (k) : (SOut.ct ρ S).seq k = .ct ρ S := (rfl)
@[simp] theorem q_ex (e : Exn) (ρ : Ev) (S : Sto) (k) : (SOut.ex e ρ S).seq k = .ex e ρ S := (rfl)
@[simp] theorem q_bad (k) : (SOut.bad).seq k = .bad := (rfl)
@[simp] theorem sb_ok {α : Type} (a : α) (S : Sto) (ρ : Ev) (k : α → Sto → SOut) : sb (.ok a S) ρ k = k a S := (rfl)
@[simp] theorem sb_ex {α : Type} (e : Exn) (S : Sto) (ρ : Ev) (k : α → Sto → SOut) : sb (.ex e S) ρ k = .ex e ρ S := (rfl)
@[simp] theorem sb_bad {α : Type} (ρ : Ev) (k : α → Sto → SOut) : sb .bad ρ k = .bad := (rfl)
@[simp] theorem stab_d (x : D) : stab (.d x) S = .ok (.d x) S := (rfl)
@[simp] theorem stab_l (n : Nat) : stab (.loc n) S = .ok (.loc n) S := (rfl)
@[simp] theorem v_dC (x : D) : dC x ρ S = .ok (.d x) S := (rfl)
@[simp] theorem v_dVar (i : Nat) : dVar i ρ S = (match ρ[i]? with
  | some (some w) => stab w S
  | _ => .bad) := (rfl)
@[simp] theorem v_dOp (f a b) : dOp f a b ρ S = (a ρ S).bind fun x S1 => (b ρ S1).bind fun y S2 => ap2 f x y S2 := (rfl)
@[simp] theorem v_dUn (f a) : dUn f a ρ S = (a ρ S).bind fun x S1 => ap1 f x S1 := (rfl)
@[simp] theorem v_ap2 (f : D → D → Option D) (x y : D) : ap2 f (.d x) (.d y) S = (match f x y with
  | some z => .ok (.d z) S
  | none => .bad) := (rfl)
@[simp] theorem v_ap1 (f : D → Option D) (x : D) : ap1 f (.d x) S = (match f x with
  | some z => .ok (.d z) S
  | none => .bad) := (rfl)
@[simp] theorem v_dTst (a) : dTst a ρ S = (a ρ S).bind tst := (rfl)
@[simp] theorem v_tst (b : Bool) : tst (.d (.bl b)) S = .ok b S := (rfl)
@[simp] theorem v_dTru (a) : dTru a ρ S = (a ρ S).bind truD := (rfl)
@[simp] theorem v_dAnd (a b) : dAnd a b ρ S = (a ρ S).bind fun c S1 => if c = true then b ρ S1 else .ok false S1 := (rfl)
@[simp] theorem v_dOr (a b) : dOr a b ρ S = (a ρ S).bind fun c S1 => if c = true then .ok true S1 else b ρ S1 := (rfl)
@[simp] theorem v_dNot (a) : dNot a ρ S = (a ρ S).bind fun c S1 => .ok (!c) S1 := (rfl)
@[simp] theorem v_dAndV (a b) : dAndV a b ρ S = (a ρ S).bind fun w S1 => (tst w S1).bind fun c S2 => if c = true then b ρ S2 else .ok (.d (.bl false)) S2 := (rfl)
@[simp] theorem v_dOrV (a b) : dOrV a b ρ S = (a ρ S).bind fun w S1 => (tst w S1).bind fun c S2 => if c = true then .ok (.d (.bl true)) S2 else b ρ S2 := (rfl)
@[simp] theorem v_dNotV (a) : dNotV a ρ S = (a ρ S).bind fun w S1 => (tst w S1).bind fun c S2 => .ok (.d (.bl (!c))) S2 := (rfl)
@[simp] theorem v_dIf (t a b) : dIf t a b ρ S = (t ρ S).bind fun c S1 => if c = true then a ρ S1 else b ρ S1 := (rfl)
@[simp] theorem v_dIx (a b) : dIx a b ρ S = (a ρ S).bind fun x S1 => (b ρ S1).bind fun y S2 => okW (ixW x y S2) S2 := (rfl)
@[simp] theorem v_okW (w : W) : okW (some w) S = stab w S := (rfl)
@[simp] theorem v_dNil : dNil ρ S = .ok [] S := (rfl)
@[simp] theorem v_dCons (a r) : dCons a r ρ S = (a ρ S).bind fun w S1 => (r ρ S1).bind fun ws S2 => .ok (w :: ws) S2 := (rfl)
@[simp] theorem v_dTup (a) : dTup a ρ S = (a ρ S).bind mkTup := (rfl)
@[simp] theorem v_dLst (a) : dLst a ρ S = (a ρ S).bind mkLst := (rfl)
@[simp] theorem v_dLstO (a) : dLstO a ρ S = (a ρ S).bind mkOwn := (rfl)
@[simp] theorem v_dCall (f a) : dCall f a ρ S = (a ρ S).bind (ap f) := (rfl)
@[simp] theorem v_dBt (f a) : dBt f a ρ S = (a ρ S).bind (apL f) := (rfl)
@[simp] theorem v_dIsi (T a) : dIsi T a ρ S = (a ρ S).bind (isiW T) := (rfl)
@[simp] theorem v_skip : dSkip ρ S = .nx ρ S := (rfl)
@[simp] theorem v_dBad : dBad ρ S = .bad := (rfl)
@[simp] theorem v_dSeq (a b) : dSeq a b ρ S = (a ρ S).seq b := (rfl)
@[simp] theorem v_dAsg (i e) : dAsg i e ρ S = sb (e ρ S) ρ fun w S1 => .nx (ρ.set i (some w)) S1 := (rfl)
@[simp] theorem v_dExp (e) : dExp e ρ S = sb (e ρ S) ρ fun _ S1 => .nx ρ S1 := (rfl)
@[simp] theorem v_dRet (e) : dRet e ρ S = sb (e ρ S) ρ fun w S1 => .rt w S1 := (rfl)
@[simp] theorem v_dRetN : dRetN ρ S = .rt (.d .non) S := (rfl)
@[simp] theorem v_dIfS (t a b) : dIfS t a b ρ S = sb (t ρ S) ρ fun c S1 => if c = true then a ρ S1 else b ρ S1 := (rfl)
@[simp] theorem v_dBrk : dBrk ρ S = .bk ρ S := (rfl)
@[simp] theorem v_dCnt : dCnt ρ S = .ct ρ S := (rfl)
@[simp] theorem v_dKill (ks) : dKill ks ρ S = .nx (kill ks ρ) S := (rfl)
@[simp] theorem v_kill0 : kill [] ρ = ρ := (rfl)
@[simp] theorem v_kill (k ks) : kill (k :: ks) ρ = kill ks (ρ.set k none) := (rfl)
@[simp] theorem v_dFor (g di b) : dFor g di b ρ S = sb (di ρ S) ρ fun xs S1 => loop g b xs ρ S1 := (rfl)
@[simp] theorem v_loop0 (g b) : loop g b [] ρ S = .nx ρ S := (rfl)
@[simp] theorem v_loop (g b x r) : loop g b (x :: r) ρ S = (match g x ρ with
    | none => .bad
    | some ρ1 => match b ρ1 S with
      | .nx ρ' S' => loop g b r ρ' S'
      | .ct ρ' S' => loop g b r ρ' S'
      | .bk ρ' S' => .nx ρ' S'
      | .rt w S' => .rt w S'
      | .ex e ρ' S' => .ex e ρ' S'
      | .bad => .bad) := by rw [loop] <;> rfl
@[simp] theorem v_gNm (i x) : gNm i x ρ = some (ρ.set i (some (.d x))) := (rfl)
@[simp] theorem v_iRg1 (a) : iRg1 a ρ S = (a ρ S).bind rng1 := (rfl)
@[simp] theorem v_iLst (a) : iLst a ρ S = (a ρ S).bind itemsOf := (rfl)
@[simp] theorem v_dSetI (i b e) : dSetI i b e ρ S = sb (e ρ S) ρ fun w S1 => if isLst i ρ S1 = true then sb (b ρ S1) ρ fun y S2 => setW i w y ρ S2 else .bad := (rfl)
@[simp] theorem v_ap (f ws) : ap f ws S = if ws.all isStab = true then f ws S else .bad := (rfl)
@[simp] theorem v_isStab_d (x : D) : isStab (.d x) = true := (rfl)
@[simp] theorem v_isStab_l (n : Nat) : isStab (.loc n) = true := (rfl)
@[simp] theorem v_dsOf0 : dsOf [] = some [] := (rfl)
@[simp] theorem v_dsOf (x ws) : dsOf (.d x :: ws) = (match dsOf ws with
  | some r => some (x :: r)
  | none => none) := by first | rfl | (rw [dsOf]; cases dsOf ws <;> rfl)
@[simp] theorem v_er (x : D) : er (.d x) = some x := (rfl)
@[simp] theorem v_ers0 : ers [] = some [] := (rfl)
@[simp] theorem v_ers (x ws) : ers (.d x :: ws) = (match ers ws with
  | some r => some (x :: r)
  | none => none) := by first | rfl | (rw [ers]; cases ers ws <;> simp [er])
end
def outOf : SOut → Out W
  | .nx _ S => .ok (.d .non) S
  | .rt w S => .ok w S
  | .ex e _ S => .ex e S
  | _ => .bad
@[simp] theorem outOf_nx (ρ : Ev) (S : Sto) : outOf (.nx ρ S) = .ok (.d .non) S := (rfl)
@[simp] theorem outOf_rt (w : W) (S : Sto) : outOf (.rt w S) = .ok w S := (rfl)
@[simp] theorem outOf_ex (e : Exn) (ρ : Ev) (S : Sto) : outOf (.ex e ρ S) = .ex e S := (rfl)
theorem dFn_at {np n : Nat} {body : DS} {ws : List W} {S : Sto} (h : ws.length = np) : dFn np n body ws S = outOf (body (ws.map some ++ List.replicate (n - np) none) S) := by
  unfold dFn
  rw [if_pos h]
  unfold outOf
  cases body (ws.map some ++ List.replicate (n - np) none) S <;> rfl
theorem dFn0 {n : Nat} {body : DS} {S : Sto} : dFn 0 n body [] S = outOf (body (List.replicate n none) S) := dFn_at rfl
theorem dFn1 {n : Nat} {body : DS} {a : W} {S : Sto} : dFn 1 n body [a] S = outOf (body (some a :: List.replicate (n - 1) none) S) := dFn_at rfl
theorem dFn2 {n : Nat} {body : DS} {a b : W} {S : Sto} : dFn 2 n body [a, b] S = outOf (body (some a :: some b :: List.replicate (n - 2) none) S) := dFn_at rfl
theorem dFn3 {n : Nat} {body : DS} {a b c : W} {S : Sto} : dFn 3 n body [a, b, c] S = outOf (body (some a :: some b :: some c :: List.replicate (n - 3) none) S) := dFn_at rfl
theorem dFn4 {n : Nat} {body : DS} {a b c d : W} {S : Sto} : dFn 4 n body [a, b, c, d] S = outOf (body (some a :: some b :: some c :: some d :: List.replicate (n - 4) none) S) := dFn_at rfl
theorem dFn5 {n : Nat} {body : DS} {a b c d e : W} {S : Sto} : dFn 5 n body [a, b, c, d, e] S = outOf (body (some a :: some b :: some c :: some d :: some e :: List.replicate (n - 5) none) S) := dFn_at rfl
end DL

set_option Elab.async false
set_option linter.all false
set_option maxRecDepth 100000
set_option maxHeartbeats 4000000
/-! the numbers that a law draws -/
namespace DL
open PySem L2
def pHead : DS := (dIfS (dAnd (dTst (dOp fEq (dIx (dVar 0) (dC (.int 2))) (dC (.int 0)))) (dTst (dOp fLt (dIx (dVar 0) (dC (.int 1))) (dBt fLen (dCons (dIx (dVar 0) (dC (.int 0))) dNil))))) (dSeq (dAsg 2 (dIx (dIx (dVar 0) (dC (.int 0))) (dIx (dVar 0) (dC (.int 1))))) (dSeq (dSetI 0 (dC (.int 1)) (dOp fAdd (dIx (dVar 0) (dC (.int 1))) (dC (.int 1)))) (dIfS (dTst (dOp fGe (dVar 2) (dOp fPow (dC (.int 10)) (dC (.int 18))))) (dSetI 0 (dC (.int 2)) (dVar 2)) (dSetI 0 (dC (.int 3)) (dOp fMod (dBt fInt (dCons (dOp fAdd (dOp fAdd (dOp fMul (dIx (dVar 0) (dC (.int 3))) (dC (.int 48271))) (dOp fMod (dBt fInt (dCons (dVar 2) dNil)) (dC (.int 2147483629)))) (dC (.int 1))) dNil)) (dC (.int 2147483647))))))) dSkip)
def pTail : DS := (dSeq (dIfS (dTst (dOp fGt (dIx (dVar 0) (dC (.int 2))) (dC (.int 0)))) (dSeq (dAsg 3 (dOp fMod (dBt fInt (dCons (dIx (dVar 0) (dC (.int 2))) dNil)) (dVar 1))) (dSeq (dSetI 0 (dC (.int 2)) (dOp fDiv (dIx (dVar 0) (dC (.int 2))) (dVar 1))) (dRet (dVar 3)))) dSkip) (dSeq (dSetI 0 (dC (.int 3)) (dOp fMod (dBt fInt (dCons (dOp fAdd (dOp fMul (dIx (dVar 0) (dC (.int 3))) (dC (.int 69621))) (dC (.int 11))) dNil)) (dC (.int 2147483647)))) (dSeq (dAsg 3 (dOp fMod (dBt fInt (dCons (dOp fAdd (dOp fMul (dIx (dVar 0) (dC (.int 3))) (dC (.int 40692))) (dOp fDiv (dIx (dVar 0) (dC (.int 3))) (dC (.int 1009)))) dNil)) (dC (.int 2147483399)))) (dRet (dOp fMod (dBt fInt (dCons (dOp fDiv (dVar 3) (dC (.int 16))) dNil)) (dVar 1))))))
def dPull : DF := dFn 2 4 (dSeq pHead pTail)
def dStart : DF := dFn 1 1 ((dRet (dLstO (dCons (dBt fList (dCons (dVar 0) dNil)) (dCons (dC (.int 0)) (dCons (dC (.int 0)) (dCons (dC (.int 1234577)) dNil)))))))
/-- the law's state -/
def cellS (ns : List D) (p b s : Int) : Cell := .lst [.d (.lst ns), .d (.int p), .d (.int b), .d (.int s)]
structure OkS (ns : List D) (p b s : Int) : Prop where
  allInt : ∀ x ∈ ns, ∃ i, x = D.int i
  p0 : 0 ≤ p
  b0 : 0 ≤ b
  s0 : 0 ≤ s
  s1 : s < 2147483648
@[simp] theorem eq_int (i j : Int) : fEq (.int i) (.int j) = some (.bl (decide (i = j))) := by
  have h : ∀ i : Int, okD (.int i) = true := fun i => rfl
  have e : eqD (.int i) (.int j) = decide (i = j) := by
    show PyData.eqv (.int i) (.int j) = _
    rw [PyData.eqv]
    by_cases q : i = j <;> simp [q]
  simp only [fEq, h, e, and_self, if_true]
section
variable {α : Type} {a b c d : α}
@[simp] theorem at4_0 : atI [a, b, c, d] 0 = some a := rfl
@[simp] theorem at4_1 : atI [a, b, c, d] 1 = some b := rfl
@[simp] theorem at4_2 : atI [a, b, c, d] 2 = some c := rfl
@[simp] theorem at4_3 : atI [a, b, c, d] 3 = some d := rfl
end
@[simp] theorem ix4_1 : ixN 4 1 = some 1 := rfl
@[simp] theorem ix4_2 : ixN 4 2 = some 2 := rfl
@[simp] theorem ix4_3 : ixN 4 3 = some 3 := rfl
theorem atI_nat {α : Type} {xs : List α} {p : Int} (h0 : 0 ≤ p) (h : p < xs.length) : atI xs p = xs[p.toNat]? := by
  unfold atI ixN
  rw [if_pos h0, if_pos h]
  rfl
@[simp] theorem fmul_int (i j : Int) (h : i.natAbs.log2 + j.natAbs.log2 < 1000000) : fMul (.int i) (.int j) = some (.int (i * j)) := by
  simp only [fMul, if_pos h]
theorem log_le {n k : Nat} (h : n < 2 ^ k) (h0 : 0 < k) : n.log2 ≤ k := by
  by_cases hn : n = 0
  · subst hn; simp
  · exact Nat.le_of_lt ((Nat.log2_lt hn).mpr h)
theorem fmul_lt {i j : Int} {a b : Nat} (hi : i.natAbs < 2 ^ a) (hj : j.natAbs < 2 ^ b) (ha : 0 < a) (hb : 0 < b) (h : a + b < 1000000) : fMul (.int i) (.int j) = some (.int (i * j)) := by
  refine fmul_int i j ?_
  have := log_le hi ha
  have := log_le hj hb
  omega
theorem fmod_pos {i j : Int} (h : 0 < j) : fMod (.int i) (.int j) = some (.int (i % j)) := by
  have : j ≠ 0 := by omega
  simp only [fMod, ne_eq, this, not_false_eq_true, if_true]
  rw [Int.fmod_eq_emod_of_nonneg _ (by omega)]
theorem fdiv_pos {i j : Int} (h : 0 < j) (hj : j < 2 ^ 8000) : fDiv (.int i) (.int j) = some (.int (i / j)) := by
  have h1 : j ≠ 0 := by omega
  have h2 : Builtin.divisionGoesByPylong i j = false := by
    unfold Builtin.divisionGoesByPylong
    have : (j == 0) = false := by simpa using h1
    simp only [this, Bool.false_eq_true, if_false]
    have hl : j.natAbs.log2 ≤ 8000 := log_le (by omega) (by decide)
    have : decide (j.natAbs.log2 / 30 + 1 > 300) = false := by
      simp only [decide_eq_false_iff_not]
      omega
    rw [this]
    rfl
  simp only [fDiv, ne_eq, h1, not_false_eq_true, h2, and_self, if_true]
  rw [Int.fdiv_eq_ediv_of_nonneg _ (by omega)]
/-- item k of the state -/
theorem rd {S : Sto} {n : Nat} {ws : List W} {w : W} {k : Int} {i : Nat} {ρ : Ev} (h : S[n]? = some (.lst ws)) (hi : ρ[i]? = some (some (.loc n))) (hk : atI ws k = some w) (hs : isStab w = true) : dIx (dVar i) (dC (.int k)) ρ S = .ok w S := by
  simp only [v_dIx, v_dVar, hi, stab_l, ob_ok, v_dC, ixW, h, hk, v_okW]
  cases w with
  | d x => rfl
  | loc n => rfl
  | own ws => cases hs
theorem wr {S : Sto} {n : Nat} {ws : List W} {x : D} {k : Int} {j i : Nat} {ρ : Ev} {e : DE} (h : S[n]? = some (.lst ws)) (hi : ρ[i]? = some (some (.loc n))) (hk : ixN ws.length k = some j) (he : e ρ S = .ok (.d x) S) : dSetI i (dC (.int k)) e ρ S = .nx ρ (S.set n (.lst (ws.set j (.d x)))) := by
  simp only [v_dSetI, he, sb_ok, isLst, hi, h, if_true, v_dC, setW, hk, v_isStab_d]
theorem tail_ok {S : Sto} {n : Nat} {ns : List D} {p b s many : Int} {x : Option W} (h : S[n]? = some (cellS ns p b s)) (ok : OkS ns p b s) (hm : 0 < many) (hb : many < 2 ^ 8000) :
    ∃ r b' s', pTail [some (.loc n), some (.d (.int many)), x, none] S = .rt (.d (.int r)) (S.set n (cellS ns p b' s')) ∧ OkS ns p b' s' ∧ 0 ≤ r ∧ r < many := by
  have hn : n < S.length := (List.getElem?_eq_some_iff.mp h).1
  unfold cellS at h
  have r2 : ∀ y z, dIx (dVar 0) (dC (.int 2)) [some (.loc n), some (.d (.int many)), y, z] S = .ok (.d (.int b)) S := fun y z => rd h rfl rfl rfl
  have r3 : ∀ y z, dIx (dVar 0) (dC (.int 3)) [some (.loc n), some (.d (.int many)), y, z] S = .ok (.d (.int s)) S := fun y z => rd h rfl rfl rfl
  by_cases c : 0 < b
  · refine ⟨b % many, b / many, s, ?_, ⟨ok.allInt, ok.p0, Int.ediv_nonneg ok.b0 (by omega), ok.s0, ok.s1⟩, Int.emod_nonneg _ (by omega), Int.emod_lt_of_pos _ hm⟩
    unfold pTail
    have w1 : ∀ y z, dSetI 0 (dC (.int 2)) (dOp fDiv (dIx (dVar 0) (dC (.int 2))) (dVar 1)) [some (.loc n), some (.d (.int many)), y, z] S = .nx [some (.loc n), some (.d (.int many)), y, z] (S.set n (cellS ns p (b / many) s)) := fun y z => by
          rw [wr (x := .int (b / many)) h rfl rfl ?_]
          · rfl
          · simp only [v_dOp, r2, ob_ok, v_dVar, List.getElem?_cons_succ, List.getElem?_cons_zero, stab_d, v_ap2, fdiv_pos hm hb]
    simp only [v_dSeq, v_dIfS, v_dTst, v_dOp, r2, ob_ok, v_dC, v_ap2, fGt, v_tst, sb_ok, c, decide_true, if_true, v_dAsg, v_dBt, v_dCons, v_dNil, apL, dsOf, Option.map, fInt, v_dVar, List.getElem?_cons_succ, List.getElem?_cons_zero, stab_d, fmod_pos hm, q_nx, List.set_cons_succ, List.set_cons_zero, w1, v_dRet, q_rt]
  · have hb0 : b = 0 := by have := ok.b0; omega
    subst hb0
    let s1 := (s * 69621 + 11) % 2147483647
    let u := (s1 * 40692 + s1 / 1009) % 2147483399
    have hs1 : 0 ≤ s1 ∧ s1 < 2147483647 := ⟨Int.emod_nonneg _ (by omega), Int.emod_lt_of_pos _ (by omega)⟩
    have hs := ok.s0
    have hs' := ok.s1
    refine ⟨(u / 16) % many, 0, s1, ?_, ⟨ok.allInt, ok.p0, by omega, hs1.1, by omega⟩, Int.emod_nonneg _ (by omega), Int.emod_lt_of_pos _ hm⟩
    have w1 : ∀ y z, dSetI 0 (dC (.int 3)) (dOp fMod (dBt fInt (dCons (dOp fAdd (dOp fMul (dIx (dVar 0) (dC (.int 3))) (dC (.int 69621))) (dC (.int 11))) dNil)) (dC (.int 2147483647))) [some (.loc n), some (.d (.int many)), y, z] S = .nx [some (.loc n), some (.d (.int many)), y, z] (S.set n (cellS ns p 0 s1)) := fun y z => by
          rw [wr (x := .int s1) h rfl rfl ?_]
          · rfl
          · simp only [v_dOp, r3, ob_ok, v_dC, v_ap2, fmul_lt (i := s) (j := 69621) (a := 31) (b := 17) (by omega) (by decide) (by decide) (by decide) (by decide), fAdd, v_dBt, v_dCons, v_dNil, apL, dsOf, Option.map, fInt, fmod_pos (show (0 : Int) < 2147483647 by decide)]
            rfl
    have h2 : (S.set n (cellS ns p 0 s1))[n]? = some (.lst [.d (.lst ns), .d (.int p), .d (.int 0), .d (.int s1)]) := List.getElem?_set_self hn
    have r4 : ∀ y z, dIx (dVar 0) (dC (.int 3)) [some (.loc n), some (.d (.int many)), y, z] (S.set n (cellS ns p 0 s1)) = .ok (.d (.int s1)) (S.set n (cellS ns p 0 s1)) := fun y z => rd h2 rfl rfl rfl
    unfold pTail
    simp only [v_dSeq, v_dIfS, v_dTst, v_dOp, r2, ob_ok, v_dC, v_ap2, fGt, v_tst, sb_ok, c, decide_false, if_false, Bool.false_eq_true, v_skip, v_dAsg, v_dBt, v_dCons, v_dNil, apL, dsOf, Option.map, fInt, v_dVar, List.getElem?_cons_succ, List.getElem?_cons_zero, stab_d, q_nx, w1, r4, fmul_lt (i := s1) (j := 40692) (a := 31) (b := 17) (by omega) (by decide) (by decide) (by decide) (by decide), fAdd,
      fdiv_pos (show (0 : Int) < 1009 by decide) (by decide), fdiv_pos (show (0 : Int) < 16 by decide) (by decide), fmod_pos (show (0 : Int) < 2147483399 by decide), fmod_pos hm, List.set_cons_succ, List.set_cons_zero, v_dRet]
    rfl
theorem head_ok {S : Sto} {n : Nat} {ns : List D} {p b s many : Int} (h : S[n]? = some (cellS ns p b s)) (ok : OkS ns p b s) :
    ∃ x p' b' s', pHead [some (.loc n), some (.d (.int many)), none, none] S = .nx [some (.loc n), some (.d (.int many)), x, none] (S.set n (cellS ns p' b' s')) ∧ OkS ns p' b' s' := by
  have hn : n < S.length := (List.getElem?_eq_some_iff.mp h).1
  have hset : S.set n (cellS ns p b s) = S := by
    obtain ⟨h1, h2⟩ := List.getElem?_eq_some_iff.mp h
    rw [← h2]; exact List.set_getElem_self h1
  have h' := h
  unfold cellS at h
  have r0 : ∀ y z, dIx (dVar 0) (dC (.int 0)) [some (.loc n), some (.d (.int many)), y, z] S = .ok (.d (.lst ns)) S := fun y z => rd h rfl rfl rfl
  have r1 : ∀ y z, dIx (dVar 0) (dC (.int 1)) [some (.loc n), some (.d (.int many)), y, z] S = .ok (.d (.int p)) S := fun y z => rd h rfl rfl rfl
  have r2 : ∀ y z, dIx (dVar 0) (dC (.int 2)) [some (.loc n), some (.d (.int many)), y, z] S = .ok (.d (.int b)) S := fun y z => rd h rfl rfl rfl
  by_cases c : b = 0
  · subst c
    by_cases c2 : p < (ns.length : Int)
    · have hp := ok.p0
      have hl : p.toNat < ns.length := by omega
      obtain ⟨v, hv⟩ := ok.allInt _ (List.getElem_mem hl)
      have hat : atI ns p = some (.int v) := by rw [atI_nat hp c2, List.getElem?_eq_getElem hl, hv]
      have w1 : ∀ y z, dSetI 0 (dC (.int 1)) (dOp fAdd (dIx (dVar 0) (dC (.int 1))) (dC (.int 1))) [some (.loc n), some (.d (.int many)), y, z] S = .nx [some (.loc n), some (.d (.int many)), y, z] (S.set n (cellS ns (p + 1) 0 s)) := fun y z => by
          rw [wr (x := .int (p + 1)) h rfl rfl ?_]
          · rfl
          · simp only [v_dOp, r1, ob_ok, v_dC, v_ap2, fAdd]
      have h2 : (S.set n (cellS ns (p + 1) 0 s))[n]? = some (.lst [.d (.lst ns), .d (.int (p + 1)), .d (.int 0), .d (.int s)]) := List.getElem?_set_self hn
      have r5 : ∀ y z, dIx (dVar 0) (dC (.int 3)) [some (.loc n), some (.d (.int many)), y, z] (S.set n (cellS ns (p + 1) 0 s)) = .ok (.d (.int s)) (S.set n (cellS ns (p + 1) 0 s)) := fun y z => rd h2 rfl rfl rfl
      have hpow : fPow (.int 10) (.int 18) = some (.int 1000000000000000000) := by simp [fPow]
      by_cases c3 : 1000000000000000000 ≤ v
      · refine ⟨some (.d (.int v)), p + 1, v, s, ?_, ⟨ok.allInt, by omega, by omega, ok.s0, ok.s1⟩⟩
        have w2 : ∀ z, dSetI 0 (dC (.int 2)) (dVar 2) [some (.loc n), some (.d (.int many)), some (.d (.int v)), z] (S.set n (cellS ns (p + 1) 0 s)) = .nx [some (.loc n), some (.d (.int many)), some (.d (.int v)), z] (S.set n (cellS ns (p + 1) v s)) := fun z => by
          rw [wr (x := .int v) h2 rfl rfl rfl, List.set_set]; rfl
        unfold pHead
        simp only [v_dIfS, v_dAnd, v_dTst, v_dOp, r2, r1, r0, ob_ok, v_dC, v_ap2, eq_int, eq_self, decide_true, v_tst, if_true, v_dBt, v_dCons, v_dNil, apL, dsOf, Option.map, fLen, fLt, c2, sb_ok, v_dSeq, v_dAsg]
        simp only [v_dIx (dIx _ _), r0, r1, ob_ok, ixW, hat, Option.map, v_okW, stab_d, sb_ok, q_nx, List.set_cons_succ, List.set_cons_zero, v_dSeq, w1, v_dIfS, v_dTst, v_dOp, v_dVar, List.getElem?_cons_succ, List.getElem?_cons_zero, v_dC, hpow, v_ap2, fGe, c3, decide_true, v_tst, if_true]
        exact w2 none
      · let s1 := (s * 48271 + v % 2147483629 + 1) % 2147483647
        have hs1 : 0 ≤ s1 ∧ s1 < 2147483647 := ⟨Int.emod_nonneg _ (by omega), Int.emod_lt_of_pos _ (by omega)⟩
        have hs := ok.s0
        have hs' := ok.s1
        refine ⟨some (.d (.int v)), p + 1, 0, s1, ?_, ⟨ok.allInt, by omega, ok.b0, hs1.1, by omega⟩⟩
        have w2 : ∀ z, dSetI 0 (dC (.int 3)) (dOp fMod (dBt fInt (dCons (dOp fAdd (dOp fAdd (dOp fMul (dIx (dVar 0) (dC (.int 3))) (dC (.int 48271))) (dOp fMod (dBt fInt (dCons (dVar 2) dNil)) (dC (.int 2147483629)))) (dC (.int 1))) dNil)) (dC (.int 2147483647))) [some (.loc n), some (.d (.int many)), some (.d (.int v)), z] (S.set n (cellS ns (p + 1) 0 s)) = .nx [some (.loc n), some (.d (.int many)), some (.d (.int v)), z] (S.set n (cellS ns (p + 1) 0 s1)) := fun z => by
          rw [wr (x := .int s1) h2 rfl rfl ?_, List.set_set]
          · rfl
          · simp only [v_dOp, r5, ob_ok, v_dC, v_ap2, fmul_lt (i := s) (j := 48271) (a := 31) (b := 16) (by omega) (by decide) (by decide) (by decide) (by decide), fAdd, v_dBt, v_dCons, v_dNil, apL, dsOf, Option.map, fInt, fmod_pos (show (0 : Int) < 2147483647 by decide), fmod_pos (show (0 : Int) < 2147483629 by decide), v_dVar, List.getElem?_cons_succ, List.getElem?_cons_zero, stab_d]
            rfl
        unfold pHead
        simp only [v_dIfS, v_dAnd, v_dTst, v_dOp, r2, r1, r0, ob_ok, v_dC, v_ap2, eq_int, eq_self, decide_true, v_tst, if_true, v_dBt, v_dCons, v_dNil, apL, dsOf, Option.map, fLen, fLt, c2, sb_ok, v_dSeq, v_dAsg]
        simp only [v_dIx (dIx _ _), r0, r1, ob_ok, ixW, hat, Option.map, v_okW, stab_d, sb_ok, q_nx, List.set_cons_succ, List.set_cons_zero, v_dSeq, w1, v_dIfS, v_dTst, v_dOp, v_dVar, List.getElem?_cons_succ, List.getElem?_cons_zero, v_dC, hpow, v_ap2, fGe, c3, decide_false, v_tst, if_false, Bool.false_eq_true]
        exact w2 none
    · refine ⟨none, p, 0, s, ?_, ok⟩
      rw [hset]
      unfold pHead
      simp only [v_dIfS, v_dAnd, v_dTst, v_dOp, r2, r1, r0, ob_ok, v_dC, v_ap2, eq_int, eq_self, decide_true, v_tst, if_true, v_dBt, v_dCons, v_dNil, apL, dsOf, Option.map, fLen, fLt, c2, decide_false, sb_ok, Bool.false_eq_true, if_false, v_skip]
  · refine ⟨none, p, b, s, ?_, ok⟩
    rw [hset]
    unfold pHead
    simp only [v_dIfS, v_dAnd, v_dTst, v_dOp, r2, ob_ok, v_dC, v_ap2, eq_int, c, decide_false, v_tst, Bool.false_eq_true, if_false, sb_ok, v_skip]
theorem pull_ok {S : Sto} {n : Nat} {ns : List D} {p b s many : Int} (h : S[n]? = some (cellS ns p b s)) (ok : OkS ns p b s) (hm : 0 < many) (hb : many < 2 ^ 8000) :
    ∃ r p' b' s', dPull [.loc n, .d (.int many)] S = .ok (.d (.int r)) (S.set n (cellS ns p' b' s')) ∧ OkS ns p' b' s' ∧ 0 ≤ r ∧ r < many := by
  have hn : n < S.length := (List.getElem?_eq_some_iff.mp h).1
  obtain ⟨x, p1, b1, s1, e1, ok1⟩ := head_ok (many := many) h ok
  obtain ⟨r, b2, s2, e2, ok2, r0, r1⟩ := tail_ok (x := x) (S := S.set n (cellS ns p1 b1 s1)) (List.getElem?_set_self hn) ok1 hm hb
  refine ⟨r, p1, b2, s2, ?_, ok2, r0, r1⟩
  unfold dPull dFn
  simp only [List.length_cons, List.length_nil, if_true, List.map, List.replicate, List.append, v_dSeq]
  show (match (pHead [some (.loc n), some (.d (.int many)), none, none] S).seq pTail with
    | SOut.nx _ S1 => Out.ok (W.d D.non) S1
    | .rt w S1 => .ok w S1
    | .ex e _ S1 => .ex e S1
    | _ => .bad) = _
  rw [e1, q_nx, e2, List.set_set]
end DL

set_option Elab.async false
set_option linter.all false
set_option maxRecDepth 100000
set_option maxHeartbeats 4000000
/-! loops, comparing data, drawing -/
namespace DL
open PySem L2
/-- a loop that keeps I and runs through -/
theorem loop_inv {g : DG} {body : DS} (I : Ev → Sto → Prop) : ∀ {xs : List D} {ρ : Ev} {S : Sto}, I ρ S → (∀ x ∈ xs, ∀ ρ S, I ρ S → ∃ ρ1 ρ2 S2, g x ρ = some ρ1 ∧ (body ρ1 S = .nx ρ2 S2 ∨ body ρ1 S = .ct ρ2 S2) ∧ I ρ2 S2) → ∃ ρ' S', loop g body xs ρ S = .nx ρ' S' ∧ I ρ' S'
  | [], ρ, S, h, _ => ⟨ρ, S, rfl, h⟩
  | x :: r, ρ, S, h, k => by
    obtain ⟨ρ1, ρ2, S2, e1, e2, h2⟩ := k x List.mem_cons_self ρ S h
    obtain ⟨ρ', S', e3, h3⟩ := loop_inv I h2 fun y m => k y (List.mem_cons_of_mem _ m)
    refine ⟨ρ', S', ?_, h3⟩
    rw [v_loop, e1]
    dsimp only
    rcases e2 with e2 | e2 <;> rw [e2] <;> exact e3
/-- .. where the item's place matters -/
theorem loop_ix {g : DG} {body : DS} (I : Nat → Ev → Sto → Prop) : ∀ {xs : List D} {i : Nat} {ρ : Ev} {S : Sto}, I i ρ S → (∀ j x, xs[j]? = some x → ∀ ρ S, I (i + j) ρ S → ∃ ρ1 ρ2 S2, g x ρ = some ρ1 ∧ (body ρ1 S = .nx ρ2 S2 ∨ body ρ1 S = .ct ρ2 S2) ∧ I (i + j + 1) ρ2 S2) →
    ∃ ρ' S', loop g body xs ρ S = .nx ρ' S' ∧ I (i + xs.length) ρ' S'
  | [], i, ρ, S, h, _ => ⟨ρ, S, rfl, h⟩
  | x :: r, i, ρ, S, h, k => by
    obtain ⟨ρ1, ρ2, S2, e1, e2, h2⟩ := k 0 x rfl ρ S h
    obtain ⟨ρ', S', e3, h3⟩ := loop_ix (i := i + 1) I h2 fun j y m ρ S hh => by
      have := k (j + 1) y (by simpa using m) ρ S (by rw [show i + (j + 1) = i + 1 + j by omega]; exact hh)
      rw [show i + (j + 1) + 1 = i + 1 + j + 1 by omega] at this
      exact this
    refine ⟨ρ', S', ?_, by rw [show i + (x :: r).length = i + 1 + r.length by simp; omega]; exact h3⟩
    rw [v_loop, e1]
    dsimp only
    rcases e2 with e2 | e2 <;> rw [e2] <;> exact e3
def dIsInt : DF := dFn 1 1 ((dRet (dAndV (dIsi "int" (dVar 0)) (dNotV (dIsi "bool" (dVar 0))))))
def sameB (f : DF) : DS := (dSeq (dIfS (dNot (dTst (dCall f (dCons (dIx (dVar 0) (dVar 2)) (dCons (dIx (dVar 1) (dVar 2)) dNil))))) (dRet (dC (.bl false))) dSkip) (dSeq (dKill [2]) dSkip))
def dSame : Nat → DF
  | 0 => fun _ _ => .bad
  | m + 1 => dFn 2 3 ((dSeq (dIfS (dTst (dOp fIsN (dVar 1) (dC .non))) (dRet (dOp fIsN (dVar 0) (dC .non))) dSkip) (dSeq (dIfS (dTst (dIsi "bool" (dVar 1))) (dRet (dAndV (dIsi "bool" (dVar 0)) (dOp fEq (dVar 0) (dVar 1)))) dSkip) (dSeq (dIfS (dTst (dIsi "int" (dVar 1))) (dRet (dAndV (dCall dIsInt (dCons (dVar 0) dNil)) (dOp fEq (dVar 0) (dVar 1)))) dSkip) (dSeq (dIfS (dTst (dIsi "str" (dVar 1))) (dRet (dAndV (dIsi "str" (dVar 0)) (dOp fEq (dVar 0) (dVar 1)))) dSkip) (dSeq (dIfS (dAnd (dTst (dIsi "list" (dVar 1))) (dNot (dTst (dIsi "list" (dVar 0))))) (dRet (dC (.bl false))) dSkip) (dSeq (dIfS (dAnd (dTst (dIsi "tuple" (dVar 1))) (dNot (dTst (dIsi "tuple" (dVar 0))))) (dRet (dC (.bl false))) dSkip) (dSeq (dIfS (dTst (dOp fNe (dBt fLen (dCons (dVar 0) dNil)) (dBt fLen (dCons (dVar 1) dNil)))) (dRet (dC (.bl false))) dSkip) (dSeq (dKill [2]) (dSeq (dFor (gNm 2) (iRg1 (dCons (dBt fLen (dCons (dVar 1) dNil)) dNil)) (sameB (dSame m))) (dRet (dC (.bl true)))))))))))))
def dBig : DF := dFn 2 4 ((dSeq (dAsg 2 (dC (.int 0))) (dSeq (dKill [3]) (dSeq (dFor (gNm 3) (iRg1 (dCons (dC (.int 6)) dNil)) (dSeq (dAsg 2 (dOp fAdd (dOp fMul (dVar 2) (dC (.int 100000007))) (dCall dPull (dCons (dVar 0) (dCons (dC (.int 100000007)) dNil))))) (dSeq (dKill [3]) dSkip))) (dRet (dOp fMod (dBt fInt (dCons (dVar 2) dNil)) (dVar 1)))))))
mutual
def smD : Nat → D → Bool
  | 0, _ => false
  | _ + 1, .non => true
  | _ + 1, .bl _ => true
  | _ + 1, .int _ => true
  | _ + 1, .str x => okD (.str x)
  | m + 1, .lst xs => decide (xs.length ≤ 1000000000) && smL m xs
  | m + 1, .tup xs => decide (xs.length ≤ 1000000000) && smL m xs
  | _ + 1, _ => false
def smL : Nat → List D → Bool
  | _, [] => true
  | m, x :: r => smD m x && smL m r
end
theorem smL_mem {m : Nat} : ∀ {xs : List D}, smL m xs = true → ∀ x ∈ xs, smD m x = true
  | y :: r, h, x, hm => by
    have h' := Bool.and_eq_true_iff.mp (show (smD m y && smL m r) = true from h)
    rcases List.mem_cons.mp hm with rfl | hm
    · exact h'.1
    · exact smL_mem h'.2 x hm
theorem isi_ok {T a : String} {x : D} {b : Bool} {S : Sto} (h1 : tyD x = some a) (h2 : kitB a T = some b) : isiW T (.d x) S = .ok (.d (.bl b)) S := by
  unfold isiW
  simp only [h1, Option.bind_some, h2]
@[simp] theorem kb_NoneType_bool : kitB "NoneType" "bool" = some false := by decide +kernel
@[simp] theorem kb_NoneType_int : kitB "NoneType" "int" = some false := by decide +kernel
@[simp] theorem kb_NoneType_str : kitB "NoneType" "str" = some false := by decide +kernel
@[simp] theorem kb_NoneType_list : kitB "NoneType" "list" = some false := by decide +kernel
@[simp] theorem kb_NoneType_tuple : kitB "NoneType" "tuple" = some false := by decide +kernel
@[simp] theorem kb_bool_bool : kitB "bool" "bool" = some true := by decide +kernel
@[simp] theorem kb_bool_int : kitB "bool" "int" = some true := by decide +kernel
@[simp] theorem kb_bool_str : kitB "bool" "str" = some false := by decide +kernel
@[simp] theorem kb_bool_list : kitB "bool" "list" = some false := by decide +kernel
@[simp] theorem kb_bool_tuple : kitB "bool" "tuple" = some false := by decide +kernel
@[simp] theorem kb_int_bool : kitB "int" "bool" = some false := by decide +kernel
@[simp] theorem kb_int_int : kitB "int" "int" = some true := by decide +kernel
@[simp] theorem kb_int_str : kitB "int" "str" = some false := by decide +kernel
@[simp] theorem kb_int_list : kitB "int" "list" = some false := by decide +kernel
@[simp] theorem kb_int_tuple : kitB "int" "tuple" = some false := by decide +kernel
@[simp] theorem kb_str_bool : kitB "str" "bool" = some false := by decide +kernel
@[simp] theorem kb_str_int : kitB "str" "int" = some false := by decide +kernel
@[simp] theorem kb_str_str : kitB "str" "str" = some true := by decide +kernel
@[simp] theorem kb_str_list : kitB "str" "list" = some false := by decide +kernel
@[simp] theorem kb_str_tuple : kitB "str" "tuple" = some false := by decide +kernel
@[simp] theorem kb_list_bool : kitB "list" "bool" = some false := by decide +kernel
@[simp] theorem kb_list_int : kitB "list" "int" = some false := by decide +kernel
@[simp] theorem kb_list_str : kitB "list" "str" = some false := by decide +kernel
@[simp] theorem kb_list_list : kitB "list" "list" = some true := by decide +kernel
@[simp] theorem kb_list_tuple : kitB "list" "tuple" = some false := by decide +kernel
@[simp] theorem kb_tuple_bool : kitB "tuple" "bool" = some false := by decide +kernel
@[simp] theorem kb_tuple_int : kitB "tuple" "int" = some false := by decide +kernel
@[simp] theorem kb_tuple_str : kitB "tuple" "str" = some false := by decide +kernel
@[simp] theorem kb_tuple_list : kitB "tuple" "list" = some false := by decide +kernel
@[simp] theorem kb_tuple_tuple : kitB "tuple" "tuple" = some true := by decide +kernel
section
variable {S : Sto}
@[simp] theorem isi_non (T : String) : isiW T (.d .non) S = (match kitB "NoneType" T with
  | some b => .ok (.d (.bl b)) S
  | none => .bad) := rfl
@[simp] theorem isi_bl (T : String) (x : Bool) : isiW T (.d (.bl x)) S = (match kitB "bool" T with
  | some b => .ok (.d (.bl b)) S
  | none => .bad) := rfl
@[simp] theorem isi_int (T : String) (x : Int) : isiW T (.d (.int x)) S = (match kitB "int" T with
  | some b => .ok (.d (.bl b)) S
  | none => .bad) := rfl
@[simp] theorem isi_str (T : String) (x : Str) : isiW T (.d (.str x)) S = (match kitB "str" T with
  | some b => .ok (.d (.bl b)) S
  | none => .bad) := rfl
@[simp] theorem isi_lst (T : String) (x : List D) : isiW T (.d (.lst x)) S = (match kitB "list" T with
  | some b => .ok (.d (.bl b)) S
  | none => .bad) := rfl
@[simp] theorem isi_tup (T : String) (x : List D) : isiW T (.d (.tup x)) S = (match kitB "tuple" T with
  | some b => .ok (.d (.bl b)) S
  | none => .bad) := rfl
end
@[simp] theorem eq_bl (i j : Bool) : fEq (.bl i) (.bl j) = some (.bl (decide (i = j))) := by
  have h : ∀ i : Bool, okD (.bl i) = true := fun i => rfl
  have e : eqD (.bl i) (.bl j) = decide (i = j) := by
    show PyData.eqv (.bool i) (.bool j) = _
    rw [PyData.eqv]
    cases i <;> cases j <;> rfl
  simp only [fEq, h, e, and_self, if_true]
theorem eq_str {i j : Str} (hi : okD (.str i) = true) (hj : okD (.str j) = true) : fEq (.str i) (.str j) = some (.bl (decide (i = j))) := by
  have e : eqD (.str i) (.str j) = decide (i = j) := by
    show PyData.eqv (.str i) (.str j) = _
    rw [PyData.eqv]
    by_cases q : i = j <;> simp [q]
  simp only [fEq, hi, hj, e, and_self, if_true]
@[simp] theorem ne_int (i j : Int) : fNe (.int i) (.int j) = some (.bl (!decide (i = j))) := by
  have h : ∀ i : Int, okD (.int i) = true := fun i => rfl
  have e : eqD (.int i) (.int j) = decide (i = j) := by
    show PyData.eqv (.int i) (.int j) = _
    rw [PyData.eqv]
    by_cases q : i = j <;> simp [q]
  simp only [fNe, h, e, and_self, if_true]
@[simp] theorem isN_non : fIsN .non .non = some (.bl true) := rfl
@[simp] theorem isN_bl (x : Bool) : fIsN (.bl x) .non = some (.bl false) := rfl
@[simp] theorem isN_int (x : Int) : fIsN (.int x) .non = some (.bl false) := rfl
@[simp] theorem isN_str (x : Str) : fIsN (.str x) .non = some (.bl false) := rfl
@[simp] theorem isN_lst (x : List D) : fIsN (.lst x) .non = some (.bl false) := rfl
@[simp] theorem isN_tup (x : List D) : fIsN (.tup x) .non = some (.bl false) := rfl
@[simp] theorem len_lst (xs : List D) : fLen [.lst xs] = some (.int xs.length) := rfl
@[simp] theorem len_tup (xs : List D) : fLen [.tup xs] = some (.int xs.length) := rfl
@[simp] theorem apL_1 {f : List D → Option D} {x : D} {S : Sto} : apL f [.d x] S = (match f [x] with
  | some z => .ok (.d z) S
  | none => .bad) := rfl
theorem rng1_ok {j : Int} {S : Sto} (h0 : 0 ≤ j) (h1 : j < 4611686018427387904) : rng1 [.d (.int j)] S = .ok (rngD 0 j.toNat) S := by
  simp only [rng1]
  rw [if_pos (by constructor <;> omega)]
theorem rngD_get {lo : Int} {n j : Nat} {x : D} (h : (rngD lo n)[j]? = some x) : x = .int (lo + j) ∧ j < n := by
  unfold rngD at h
  rw [List.getElem?_map, Option.map_eq_some_iff] at h
  obtain ⟨i, h1, h2⟩ := h
  obtain ⟨h3, h4⟩ := List.getElem?_eq_some_iff.mp h1
  rw [List.getElem_range] at h4
  subst h4
  exact ⟨h2.symm, by simpa using h3⟩
theorem isInt_int (i : Int) (S : Sto) : dIsInt [.d (.int i)] S = .ok (.d (.bl true)) S := by
  simp [dIsInt, dFn]
theorem atI_j {xs : List D} {j : Nat} (h : j < xs.length) : atI xs (j : Int) = some xs[j] := by
  rw [atI_nat (by omega) (by omega)]
  simp [h]
theorem same_seq {m : Nat} {xs : List D} {a b : D} {S : Sto} (hl : xs.length ≤ 1000000000) (ha : ∀ j : Int, ixW (.d a) (.d (.int j)) S = (atI xs j).map .d) (ih : ∀ x ∈ xs, ∀ S, dSame m [.d x, .d x] S = .ok (.d (.bl true)) S) (hb : b = a) :
    ∃ ρ', loop (gNm 2) (sameB (dSame m)) (rngD 0 xs.length) [some (.d a), some (.d b), none] S = .nx ρ' S := by
  subst hb
  obtain ⟨ρ', S', e, h, h2⟩ := loop_ix (g := gNm 2) (body := sameB (dSame m)) (fun _ ρ S' => S' = S ∧ ρ = [some (.d b), some (.d b), none]) (xs := rngD 0 xs.length) (i := 0) (ρ := [some (.d b), some (.d b), none]) (S := S) ⟨rfl, rfl⟩ (fun j x hx ρ S' hI => by
    obtain ⟨rfl, rfl⟩ := hI
    obtain ⟨rfl, hj⟩ := rngD_get hx
    refine ⟨_, [some (.d b), some (.d b), none], S', rfl, .inl ?_, rfl, rfl⟩
    have e1 : ixW (.d b) (.d (.int (j : Int))) S' = some (.d xs[j]) := by rw [ha, atI_j hj]; rfl
    simp [sameB, e1, ih xs[j] (List.getElem_mem hj)])
  subst h
  exact ⟨ρ', e⟩
theorem sm_lst {m : Nat} {xs : List D} (h : smD (m + 1) (.lst xs) = true) : xs.length ≤ 1000000000 ∧ smL m xs = true := by
  rw [smD, Bool.and_eq_true, decide_eq_true_eq] at h
  exact h
theorem sm_tup {m : Nat} {xs : List D} (h : smD (m + 1) (.tup xs) = true) : xs.length ≤ 1000000000 ∧ smL m xs = true := by
  rw [smD, Bool.and_eq_true, decide_eq_true_eq] at h
  exact h
theorem same_refl (m : Nat) : ∀ (x : D) (S : Sto), smD m x = true → dSame m [.d x, .d x] S = .ok (.d (.bl true)) S := by
  induction m with
  | zero => intro x S h; cases x <;> cases h
  | succ m ih =>
    intro x S h
    cases x with
    | non => simp [dSame, dFn, fIsN]
    | bl b => simp [dSame, dFn, fIsN]
    | int i => simp [dSame, dFn, fIsN, isInt_int]
    | str z => simp [dSame, dFn, fIsN, eq_str (show okD (.str z) = true from h) (show okD (.str z) = true from h)]
    | lst xs =>
      obtain ⟨h1, h2⟩ := sm_lst h
      obtain ⟨ρ', e⟩ := same_seq (m := m) (xs := xs) (a := .lst xs) (b := .lst xs) (S := S) h1 (fun j => rfl) (fun x hx S => ih x S (smL_mem h2 x hx)) rfl
      have hr : rng1 [.d (.int xs.length)] S = .ok (rngD 0 xs.length) S := by
        rw [rng1_ok (by omega) (by omega)]; simp
      rw [dSame, dFn2]
      simp only [List.replicate, Nat.reduceSub, v_dSeq, v_dIfS, v_dVar, List.getElem?_cons_succ, List.getElem?_cons_zero, stab_d, v_dC, isN_lst, v_dIsi, isi_lst, kb_list_bool, kb_list_int, kb_list_str, kb_list_list, kb_list_tuple, v_dBt, apL_1, len_lst, sb_ok, Bool.false_eq_true, if_false, if_true, v_skip, q_nx, v_dAnd, v_dNot, ob_ok, Bool.not_true, v_dTst, v_dOp, v_ap2, ne_int, decide_true, v_tst, v_dKill, v_kill, v_kill0,
        List.set_cons_succ, List.set_cons_zero, v_dFor, v_iRg1, v_dCons, v_dNil, hr, List.singleton_append, List.nil_append, List.cons_append, List.length_cons, List.length_nil]
      exact (congrArg (fun z => outOf (SOut.seq z _)) e).trans rfl
    | tup xs =>
      obtain ⟨h1, h2⟩ := sm_tup h
      obtain ⟨ρ', e⟩ := same_seq (m := m) (xs := xs) (a := .tup xs) (b := .tup xs) (S := S) h1 (fun j => rfl) (fun x hx S => ih x S (smL_mem h2 x hx)) rfl
      have hr : rng1 [.d (.int xs.length)] S = .ok (rngD 0 xs.length) S := by
        rw [rng1_ok (by omega) (by omega)]; simp
      rw [dSame, dFn2]
      simp only [List.replicate, Nat.reduceSub, v_dSeq, v_dIfS, v_dVar, List.getElem?_cons_succ, List.getElem?_cons_zero, stab_d, v_dC, isN_tup, v_dIsi, isi_tup, kb_tuple_bool, kb_tuple_int, kb_tuple_str, kb_tuple_list, kb_tuple_tuple, v_dBt, apL_1, len_tup, sb_ok, Bool.false_eq_true, if_false, if_true, v_skip, q_nx, v_dAnd, v_dNot, ob_ok, Bool.not_true, v_dTst, v_dOp, v_ap2, ne_int, decide_true, v_tst, v_dKill, v_kill, v_kill0,
        List.set_cons_succ, List.set_cons_zero, v_dFor, v_iRg1, v_dCons, v_dNil, hr, List.singleton_append, List.nil_append, List.cons_append, List.length_cons, List.length_nil]
      exact (congrArg (fun z => outOf (SOut.seq z _)) e).trans rfl
    | frz _ => cases h
    | ins _ _ => cases h
    | fn _ => cases h
    | exc _ _ _ _ => cases h
theorem ers_map (xs : List D) : ers (xs.map W.d) = some xs := by
  induction xs with
  | nil => rfl
  | cons x r ih => simp [ih]
/-- a comprehension whose parts leave the store alone -/
theorem comp_f {vs : List Nat} {g : DG} {t : DT} {e : DE} {f : D → D} {c : D → Bool} {ρ : Ev} {S : Sto} : ∀ {xs : List D}, (∀ x ∈ xs, ∃ ρ1, g x (kill vs ρ) = some ρ1 ∧ t ρ1 S = .ok (c x) S ∧ (c x = true → e ρ1 S = .ok (.d (f x)) S)) → comp vs g t e xs ρ S = .ok (((xs.filter c).map f).map W.d) S
  | [], _ => rfl
  | x :: r, h => by
    obtain ⟨ρ1, h1, h2, h3⟩ := h x List.mem_cons_self
    have ih := comp_f (f := f) (c := c) fun y m => h y (List.mem_cons_of_mem _ m)
    rw [comp, h1]
    dsimp only
    rw [h2]
    by_cases hc : c x = true
    · simp only [nox, ob_ok, hc, if_true, h3 hc, ih, List.filter_cons_of_pos, List.map_cons]
    · simp only [nox, ob_ok, hc, if_false, ih, Bool.false_eq_true, List.filter_cons_of_neg, not_false_eq_true]
theorem lc_f {vs : List Nat} {g : DG} {di : DI} {t : DT} {e : DE} {f : D → D} {c : D → Bool} {ρ : Ev} {S S0 : Sto} {xs : List D} (hd : di ρ S0 = .ok xs S) (hl : xs.length ≤ 1000000) (h : ∀ x ∈ xs, ∃ ρ1, g x (kill vs ρ) = some ρ1 ∧ t ρ1 S = .ok (c x) S ∧ (c x = true → e ρ1 S = .ok (.d (f x)) S)) :
    dLc vs g di t e ρ S0 = .ok (.d (.lst ((xs.filter c).map f))) S := by
  show (di ρ S0).bind _ = _
  rw [hd, ob_ok, if_pos hl, comp_f h, ob_ok, finL, ers_map]
def bigB : DS := (dSeq (dAsg 2 (dOp fAdd (dOp fMul (dVar 2) (dC (.int 100000007))) (dCall dPull (dCons (dVar 0) (dCons (dC (.int 100000007)) dNil))))) (dSeq (dKill [3]) dSkip))
theorem bigB_ok {S S2 : Sto} {n : Nat} {many v r : Int} {x : D} (hv0 : 0 ≤ v) (hv : v < 2 ^ 200) (e2 : dPull [.loc n, .d (.int 100000007)] S = .ok (.d (.int r)) S2) :
    bigB [some (.loc n), some (.d (.int many)), some (.d (.int v)), some (.d x)] S = .nx [some (.loc n), some (.d (.int many)), some (.d (.int (v * 100000007 + r))), none] S2 := by
  have hm : fMul (.int v) (.int 100000007) = some (.int (v * 100000007)) := fmul_lt (a := 200) (b := 30) (by omega) (by decide) (by decide) (by decide) (by decide)
  unfold bigB
  simp [hm, e2, fAdd]
/-- six digits -/
theorem big_ok {S : Sto} {n : Nat} {ns : List D} {p b s many : Int} (h : S[n]? = some (cellS ns p b s)) (ok : OkS ns p b s) (hm : 0 < many) :
    ∃ r p' b' s', dBig [.loc n, .d (.int many)] S = .ok (.d (.int r)) (S.set n (cellS ns p' b' s')) ∧ OkS ns p' b' s' ∧ 0 ≤ r ∧ r < many := by
  have hn : n < S.length := (List.getElem?_eq_some_iff.mp h).1
  have hset : S.set n (cellS ns p b s) = S := by
    obtain ⟨h1, h2⟩ := List.getElem?_eq_some_iff.mp h
    rw [← h2]; exact List.set_getElem_self h1
  obtain ⟨ρ', S', e, v, p', b', s', e1, e2, o', v0, v1⟩ := loop_ix (g := gNm 3) (body := bigB) (fun i ρ S' => ∃ (v p' b' s' : Int), ρ = [some (.loc n), some (.d (.int many)), some (.d (.int v)), none] ∧ S' = S.set n (cellS ns p' b' s') ∧ OkS ns p' b' s' ∧ 0 ≤ v ∧ v.toNat < 2 ^ (27 * i)) (xs := rngD 0 6) (i := 0) (ρ := [some (.loc n), some (.d (.int many)), some (.d (.int 0)), none]) (S := S)
    ⟨0, p, b, s, rfl, hset.symm, ok, by decide, by decide⟩ (fun j x hx ρ S' hI => by
      obtain ⟨v, p1, b1, s1, rfl, rfl, o1, h0, h1⟩ := hI
      obtain ⟨rfl, hj⟩ := rngD_get hx
      obtain ⟨r, p2, b2, s2, e2, o2, r0, r1⟩ := pull_ok (many := 100000007) (S := S.set n (cellS ns p1 b1 s1)) (List.getElem?_set_self hn) o1 (by decide) (by decide)
      rw [List.set_set] at e2
      have hp : v.toNat < 2 ^ 200 := Nat.lt_of_lt_of_le h1 (Nat.pow_le_pow_right (by decide) (by omega))
      have hp2 : v < 2 ^ 200 := by omega
      refine ⟨_, [some (.loc n), some (.d (.int many)), some (.d (.int (v * 100000007 + r))), none], S.set n (cellS ns p2 b2 s2), rfl, .inl ?_, v * 100000007 + r, p2, b2, s2, rfl, rfl, o2, by omega, ?_⟩
      · exact bigB_ok h0 hp2 e2
      · have : 2 ^ (27 * (0 + j + 1)) = 2 ^ (27 * (0 + j)) * 134217728 := by rw [Nat.mul_add, Nat.pow_add]
        rw [this]
        generalize 2 ^ (27 * (0 + j)) = q at h1
        omega)
  refine ⟨v % many, p', b', s', ?_, o', Int.emod_nonneg _ (by omega), Int.emod_lt_of_pos _ hm⟩
  have hr : rng1 [.d (.int 6)] S = .ok (rngD 0 6) S := rfl
  subst e1 e2
  have e' : loop (gNm 3) bigB (rngD 0 6) [some (.loc n), some (.d (.int many)), some (.d (.int 0)), none] S = _ := e
  simp only [dBig, dFn, List.length_cons, List.length_nil, if_true, List.map, List.replicate, v_dSeq, v_dAsg, v_dC, sb_ok, q_nx, v_dKill, v_kill, v_kill0, v_dFor, v_iRg1, v_dCons, v_dNil, ob_ok, hr]
  show (match (loop (gNm 3) bigB (rngD 0 6) [some (.loc n), some (.d (.int many)), some (.d (.int 0)), none] S).seq _ with
    | SOut.nx _ S1 => Out.ok (W.d D.non) S1
    | .rt w S1 => .ok w S1
    | .ex e _ S1 => .ex e S1
    | _ => .bad) = _
  rw [e']
  simp [fInt, fmod_pos hm]
end DL

set_option Elab.async false
set_option linter.all false
set_option maxRecDepth 100000
set_option maxHeartbeats 4000000
/-! own exception classes over ArithmeticError: made, raised -/
namespace DX
open PySem PySem.W L2
abbrev aeTail : List Value := [.type "ArithmeticError", .type "Exception", .type "BaseException", .type "object"]
/-- what is asked of a class at C whose instances bear the fields fs; its __init__ stands at fI -/
def excB (K : Frag) (C fI : Addr) (fs : List Str) : Bool :=
  excInitIn K C aeTail "ArithmeticError.__new__" && (excOver K C aeTail && (He.eqO (findIn K (.ref C) "__setattr__") (some (some (.builtin "object.__setattr__"))) && (He.eqO (findIn K (.ref C) "__init__") (some (some (.ref fI))) &&
  (isFn K (.ref fI) && (keepIn K (.ref C) && (keepIn K (.ref fI) && (decide (subIn K (.ref C) (.type "BaseException") = some true) && (decide (typeIn K (.ref C) = some (.type "type")) && (hasDictIn K C &&
  (fs.all fun f => decide (takerIn K C f = some none) && He.eqO (findIn K (.ref C) f) (some none)))))))))))
structure ExcT (K : Frag) (C fI : Addr) (fs : List Str) : Prop where
  ini : excInitIn K C aeTail "ArithmeticError.__new__" = true
  ovr : excOver K C aeTail = true
  sa : findIn K (.ref C) "__setattr__" = some (some (.builtin "object.__setattr__"))
  iC : findIn K (.ref C) "__init__" = some (some (.ref fI))
  fnI : isFn K (.ref fI) = true
  kC : keepIn K (.ref C) = true
  kI : keepIn K (.ref fI) = true
  exC : subIn K (.ref C) (.type "BaseException") = some true
  tyC : typeIn K (.ref C) = some (.type "type")
  hdC : hasDictIn K C = true
  fld : ∀ f ∈ fs, takerIn K C f = some none ∧ findIn K (.ref C) f = some none
theorem excB_ok {K : Frag} {C fI : Addr} {fs : List Str} (h : excB K C fI fs = true) : ExcT K C fI fs := by
  unfold excB at h
  simp only [Bool.and_eq_true] at h
  obtain ⟨h1, h2, h3, h4, h5, h6, h7, h8, h9, h10, h11⟩ := h
  refine ⟨h1, h2, He.eqO_ok h3, He.eqO_ok h4, h5, h6, h7, of_decide_eq_true h8, of_decide_eq_true h9, h10, fun f m => ?_⟩
  have := List.all_eq_true.mp h11 f m
  rw [Bool.and_eq_true] at this
  exact ⟨of_decide_eq_true this.1, He.eqO_ok this.2⟩
section
open PySem.Builtin PySem.Builtin.ObjectAttr
variable {prog : Program} {w : World} {A : Around} {R : Result → Shared → Prop} {hp : Heap} {g : Array GenState} {d : Drawn} {t : Nat} {os : OsState} {K : Frag} {x C : Addr} {name : Str} {tk : Tok} {v : Value} {fv : Array Value}
theorem cls_dict (h : hasDictIn K C = true) : ∃ cd, clsIn K C = some cd ∧ cd.hasDict = true := any_some h
/-- the first field: the dict is made -/
theorem first_field (X : K.In hp) (ho : hp.get? x = some { cls := .ref C, data := .fields fv }) (hov : excOver K C aeTail = true) (hh : hasDictIn K C = true) (hf : takerIn K C name = some none)
    (hq : ∀ h2 tk2 dx, (∀ b o, b ≠ x → hp.get? b = some o → h2.get? b = some o) → hp.objs.size ≤ dx → dx ≠ x → h2.get? x = some { cls := .ref C, dict := some dx, data := .fields fv } → h2.Ns1 dx (fun y => if y = name then some v else none) → R (.ok (.ret .none)) ⟨h2, g, d, tk2, os⟩) :
    codeAny (model prog w) A (.call (.builtin "object.__setattr__") ⟨[.ref x, .str name tk, v], []⟩) R ⟨hp, g, d, t, os⟩ := by
  obtain ⟨cd, hcd, hdict⟩ := cls_dict hh
  have hlt : x ≠ hp.objs.size := Nat.ne_of_lt (Heap.lt_size ho)
  have hcls : Looks (model prog w) hp (classData C) cd := looks_clsIn X hcd
  refine osa_openX (s := ⟨hp, g, d, t, os⟩) F.store_ArithmeticError X (od := none) ⟨ho, rfl, rfl, trivial⟩ hov hf fun b => ?_
  obtain ⟨a1, a2, a3, a4, a5, a6, a7, a8, a9, a10, a11⟩ := cd
  dsimp only at hdict
  subst hdict
  show wpAny _ _ (storeInOwnDict (.ref x) (.ref C) (.str name tk) name v b) _ _ _
  unfold storeInOwnDict ownDictForStores
  repeat (first | with_reducible refine HandSPX.store_in_new ?_ ?_ | with_reducible refine wpAny_loadPart_at ho ?_ | with_reducible refine hcls.at ?_ | wp_step)
  · exact ⟨_, #[], _, (Heap.get?_update_ne _ _ _ _ hlt.symm).trans (Heap.get?_push_at rfl rfl), rfl, fun e he => absurd he (by simp), fun _ => rfl⟩
  · intro h2 tk2 hn hs
    have ho2 : (hp.push { cls := .type "dict", data := .dict #[] }).get? x = some { cls := .ref C, data := .fields fv } := Heap.get?_push_of_some _ ho
    refine hq h2 tk2 hp.objs.size (fun b o hb e => ?_) (Nat.le_refl _) hlt.symm ?_ hn
    · exact (hs.2 b (Nat.ne_of_lt (Heap.lt_size e))).trans ((Heap.get?_update_ne _ _ _ _ hb).trans (Heap.get?_push_of_some _ e))
    · exact (hs.2 x hlt).trans (Heap.get?_update_self _ ho2 rfl)
/-- a further field -/
theorem next_field {dx : Addr} {m0 : Str → Option Value} {nl : List Str} (X : K.In hp) (ho : hp.get? x = some { cls := .ref C, dict := some dx, data := .fields fv }) (hns : hp.Ns1 dx m0) (hw : Within m0 nl) (hz : nl.length ≤ 1000) (hov : excOver K C aeTail = true) (hh : hasDictIn K C = true) (hf : takerIn K C name = some none)
    (hq : ∀ h2 tk2, (∀ b o, b ≠ dx → hp.get? b = some o → h2.get? b = some o) → h2.Ns1 dx (fun y => if y = name then some v else m0 y) → R (.ok (.ret .none)) ⟨h2, g, d, tk2, os⟩) :
    codeAny (model prog w) A (.call (.builtin "object.__setattr__") ⟨[.ref x, .str name tk, v], []⟩) R ⟨hp, g, d, t, os⟩ := by
  obtain ⟨cd, hcd, hdict⟩ := cls_dict hh
  obtain ⟨oD, esD, epD, hoD, hdD, _⟩ := hns.count hw
  have hcls : Looks (model prog w) hp (classData C) cd := looks_clsIn X hcd
  refine osa_openX (s := ⟨hp, g, d, t, os⟩) F.store_ArithmeticError X (od := some oD) ⟨ho, rfl, rfl, hoD⟩ hov hf fun b => ?_
  obtain ⟨a1, a2, a3, a4, a5, a6, a7, a8, a9, a10, a11⟩ := cd
  dsimp only at hdict
  subst hdict
  show wpAny _ _ (storeInOwnDict (.ref x) (.ref C) (.str name tk) name v b) _ _ _
  unfold storeInOwnDict ownDictForStores
  repeat (first | with_reducible refine PySem.OEX.store_in_old hns hw hz ?_ | with_reducible refine wpAny_loadPart_at ho ?_ | with_reducible refine hcls.at ?_ | wp_step)
  intro h2 tk2 hn hs
  exact hq h2 tk2 (fun b o hb e => (hs.2 b hb).trans e) hn
end
section
variable {X : Cx} {pins : List (Addr × Obj)} {σ : L2.St} {H : Hp} {s : Shared} {a C fI dx : Addr} {f : Str} {y : V} {u : Value} {fs : List (Str × V)} {Q : Unit → Shared → Prop} {E : Value → Shared → Prop} {A : Around} {ns : List Str}
theorem put_first (T : ExcT X.K C fI ns) (I : Inv X pins σ H s) (e : H a = some (exo a C none)) (hf : f ∈ ns) (ry : RelV y u)
    (h : ∀ dx s', H dx = none → dx ≠ a → Inv X pins σ (upd (upd H dx (exd dx [(f, y)])) a (exo a C (some dx))) s' → Q () s') : wpAny (model X.prog X.w) A (setAttr (.ref a) f u) Q E s := by
  obtain ⟨t1, ho⟩ := exo_at I.hok e
  obtain ⟨hp, g, d, t, os⟩ := s
  refine set_plain I.kIn (ox := { cls := .ref C, dict := none, data := .fields #[.ref t1, .none, .none, .none, .bool false, .none] }) (od := none) ⟨ho, rfl, rfl, trivial⟩ T.sa ?_
  refine first_field I.kIn ho T.ovr T.hdC (T.fld f hf).1 fun h' tk' dx k dn dne hx hn => ?_
  have hnd : H dx = none := I.hok.fresh dn
  have nd : ∀ {b : Addr} {o : Obj}, hp.get? b = some o → b ≠ dx := fun {b o} q => Nat.ne_of_lt (Nat.lt_of_lt_of_le (Heap.lt_size q) dn)
  have na : ∀ {b : Addr}, H b = none → b ≠ a := fun {b} n z => by rw [z, e] at n; cases n
  have U : Un X.fs [] H (upd (upd H dx (exd dx [(f, y)])) a (exo a C (some dx))) hp h' :=
    ⟨fun b o q n _ _ => k b o (na n) q, fun b o q n _ _ => ⟨o.slots, k b o (na n) q⟩, fun b o q n _ => by rw [upd_ne (na n), upd_ne (nd q)]; exact n,
      fun b o q _ => by
        by_cases hb : b = a
        · exact ⟨_, by rw [hb]; exact hx⟩
        · exact ⟨o, k b o hb q⟩,
      fun b xs q => by rw [upd_ne (at_ne e q exo_tup), upd_ne (ne_of_none q hnd)]; exact q,
      fun b o v q => by rw [upd_ne (at_ne e q exo_frz), upd_ne (ne_of_none q hnd)]; exact q,
      fun b ps q => ⟨#[], by rw [upd_ne (at_ne e q exo_tbl), upd_ne (ne_of_none q hnd), q]; simp⟩⟩
  refine h dx _ hnd dne (I.un (t' := tk') U fun b o q => ?_)
  by_cases hb : b = a
  · subst hb
    rw [upd_same] at q; cases q
    exact exo_ok hx
  rw [upd_ne hb] at q
  by_cases hd : b = dx
  · subst hd
    rw [upd_same] at q; cases q
    exact exd_ok hn (relO_put (fs := []) ry fun g => True.intro)
  rw [upd_ne hd] at q
  refine (I.hok b o q).stay (fun c v hc z => k c v (hc.elim (fun hc => hc ▸ hb) fun hc => at_ne e hc exo_own) z) (fun c hc => ?_) fun c xs hc => ?_
  · rw [upd_ne (at_ne e hc exo_own), upd_ne (ne_of_none hc hnd)]; exact hc
  · rw [upd_ne (at_ne e hc exo_tup), upd_ne (ne_of_none hc hnd)]; exact hc
theorem put_next (T : ExcT X.K C fI ns) (I : Inv X pins σ H s) (e : H a = some (exo a C (some dx))) (ed : H dx = some (exd dx fs)) (hl : fs.length ≤ 900) (hf : f ∈ ns) (ry : RelV y u)
    (h : ∀ s', Inv X pins σ (upd H dx (exd dx ((f, y) :: fs))) s' → Q () s') : wpAny (model X.prog X.w) A (setAttr (.ref a) f u) Q E s := by
  obtain ⟨t1, ho⟩ := exo_at I.hok e
  obtain ⟨mA, hns, rel⟩ := exd_at I.hok ed
  have hw := within_of rel
  obtain ⟨hp, g, d, t, os⟩ := s
  obtain ⟨oD, _, _, hoD, _, _⟩ := hns.count hw
  refine set_plain I.kIn (ox := { cls := .ref C, dict := some dx, data := .fields #[.ref t1, .none, .none, .none, .bool false, .none] }) (od := some oD) ⟨ho, rfl, rfl, hoD⟩ T.sa ?_
  refine next_field I.kIn ho hns hw (by rw [List.length_map]; omega) T.ovr T.hdC (T.fld f hf).1 fun h' tk' k hn => ?_
  have hd : ∃ o, h'.get? dx = some o := let ⟨o, _, _, z, _⟩ := hn; ⟨o, z⟩
  exact h _ (I.write (t' := tk') (x := dx) (e := dx) (o := exd dx ((f, y) :: fs)) (by rw [ed]; exact True.intro) (.inl rfl) k hd (exd_ok hn (relO_put ry rel)))
/-- self.f = e within such an __init__ -/
def tPut (K : Frag) (f : Str) (to te : TE) : TS := fun D σ H => te σ H fun y H1 => to σ H1 fun x H2 => ∃ (a C fI : Addr) (ns : List Str), x = .ref a ∧ ExcT K C fI ns ∧ f ∈ ns ∧
  ((H2 a = some (exo a C none) ∧ ∀ dx, H2 dx = none → dx ≠ a → D.nx σ (upd (upd H2 dx (exd dx [(f, y)])) a (exo a C (some dx)))) ∨
    ∃ (dx : Addr) (fs : List (Str × V)), H2 a = some (exo a C (some dx)) ∧ H2 dx = some (exd dx fs) ∧ fs.length ≤ 900 ∧ D.nx σ (upd H2 dx (exd dx ((f, y) :: fs))))
theorem ps_put {o e : Expr} {to te : TE} {p pos : Pos} (ho : PE X o to) (he : PE X e te) (hs : swapsWith e (some (.Attribute o f p)) pos.line X.env = pure false := by rfl) : PS X (.Assign [.Attribute o f p] e pos) (tPut X.K f to te) := by
  refine ⟨fun pins s σ H D I h => ?_⟩
  refine plainObj_wpAny_Assign_Attribute (thn (he.run pins s σ H _ I h) fun v s1 ⟨y, H1, I1, r1, q1⟩ => thn (ho.run pins s1 σ H1 _ I1 q1) fun u s2 ⟨x, H2, I2, r2, q2⟩ => ?_) hs
  obtain ⟨a, C, fI, ns, ex, T, hf, q⟩ := q2
  subst ex
  obtain rfl : u = Value.ref a := r2
  rcases q with ⟨ea, q⟩ | ⟨dx, fs, ea, ed, hl, q⟩
  · exact put_first T I2 ea hf r1 fun dx s' n ne J => ⟨σ, _, J, q dx n ne⟩
  · exact put_next T I2 ea ed hl hf r1 fun s' J => ⟨σ, _, J, q⟩
/-- C(e, ..) where its __init__ keeps sp -/
theorem mk_exc {CX : CXT} {x : Str} {e : Expr} {es : List Expr} {ta : TA} {p pos : Pos} {k : Nat} {fd : FuncData} {ps : List Str} {sp : Sp} (T : ExcT X.K C fI ns) (F1 : FnOk X.prog X.w X.K X.mg X.base CX k fI fd ps sp) (hr : Room (k + 1) X.A) (hb : L2.Binds X.K fd ps [])
    (hx : Passes CX X (fun _ _ _ => False)) (hg : Gl X x) (hm : X.mg x = some (.ref C)) (ha : PA X (e :: es) ta) (hdb : (x == ("__debug__" : Str)) = false := by decide) (he : starEach (e :: es) X.env = (false, eval e X.env) :: starEach es X.env := by rfl) (hpl : (backTo pos (starEach es X.env)).any (·.1) = false := by rfl) :
    PMk X (.Call (.Name x p) (e :: es) [] pos) (tMkO C sp [] ta) := by
  intro pins s σ H Q I h
  refine wpAny_Call_Name_kw (ld_glob I hg hm ?_ hdb)
  refine callWith_K (h₀ := X.base) I.ok.mod.kin T.kC (thn (ha.run pos pins s σ H _ I h) fun us s1 ⟨vs, H1, I1, r1, hz, q1⟩ => ⟨I1.kIn, ?_⟩) he hpl
  show wpAny _ _ (call (.ref C) us) _ _ _
  obtain ⟨hp, g, dr, tk, os⟩ := s1
  obtain ⟨nm, N', qn, bs, bm, hdct, sn, sub, ab, col, dd, k0, k1, k2, k3, k5, hC, hT⟩ := excInit_of I1.kIn T.ini
  have hn : H1 (hp.objs.size + 1) = none := I1.hok.fresh (Nat.le_succ _)
  have hq := q1 (hp.objs.size + 1) hn
  have kk : ∀ b o, hp.get? b = some o → ((hp.push (kdv_tup us)).push (HandSPX.excO C hp.objs.size)).get? b = some o := fun b o z => Heap.get?_push_of_some _ (Heap.get?_push_of_some _ z)
  have hget : ((hp.push (kdv_tup us)).push (HandSPX.excO C hp.objs.size)).get? (hp.objs.size + 1) = some (HandSPX.excO C hp.objs.size) := by heap_get
  have I2 : Inv X pins σ (upd H1 (hp.objs.size + 1) (exo (hp.objs.size + 1) C none)) ⟨(hp.push (kdv_tup us)).push (HandSPX.excO C hp.objs.size), g, dr, tk, os⟩ :=
    I1.laid (t' := tk) (a := hp.objs.size + 1) (o := exo (hp.objs.size + 1) C none) (h' := (hp.push (kdv_tup us)).push (HandSPX.excO C hp.objs.size)) kk (Nat.le_succ _) (exo_ok hget)
  have r2 : Vals (V.ref (hp.objs.size + 1) :: (vs ++ [])) (Value.ref (hp.objs.size + 1) :: (us ++ [])) := .cons rfl (r1.append .nil)
  have hl : (Value.ref (hp.objs.size + 1) :: us).length = ps.length := by
    have z := r2.length
    rw [F1.len _ _ _ _ hq] at z
    simpa using z.symm
  have hus : us.length ≤ sizeLine := by rw [← Paired.length r1, sizeLine_eq]; omega
  obtain ⟨oI, hoI, hcI⟩ : ∃ oI, hp.get? fI = some oI ∧ oI.cls = .type "function" := by
    obtain ⟨o, ho, hc⟩ := Option.map_eq_some_iff.mp (show (X.K.lookup fI).map (·.cls) = some (.type "function") from beq_iff_eq.mp T.fnI)
    exact ⟨o, I1.kIn _ _ ho, hc⟩
  refine wpAny_call (HandSPX.call_own F.excBase_ArithmeticError hT hC (looks_findIn I1.kIn T.iC) (fun self => exc_bind hoI hcI self) hus
    (codeAny_mono (F1.run _ X.stack _ _ ⟨Value.ref (hp.objs.size + 1) :: us, []⟩ (Value.ref (hp.objs.size + 1) :: (us ++ [])) _ _ (fun _ _ _ => False) (hr.make C us []) (I2.env0.make C us []) (by simpa using hb _ (Value.ref (hp.objs.size + 1) :: us) I2.kIn (by simpa using hl)) r2 hq) fun r s' hq' => ?_))
  cases r with
  | error er => exact hx pins σ _ _ er s' I2 hq'
  | ok fl =>
    cases fl with
    | ret u =>
      obtain ⟨v, H2, os2, bare2, un2, hok2, rv, ev, d, fs, ea, ed, hd1, q2⟩ := hq'
      subst ev
      obtain ⟨h2, g2, d2, t2, os'⟩ := s'
      exact ⟨rv, mk_end (raises_own T.exC T.tyC) I1 (Nat.le_succ _) kk un2 hok2 os2 bare2 ea ed hd1 q2⟩
    | next => exact False.elim hq'
    | brk => exact False.elim hq'
    | cont => exact False.elim hq'
end
end DX

set_option Elab.async false
set_option linter.all false
set_option maxRecDepth 100000
set_option maxHeartbeats 4000000
/-! an exception at hand (D.exc): its fields, isinstance -/
namespace DX
open PySem L2 DL
structure ExF (K : PySem.W.Frag) (C : Addr) : Prop where
  cl : (PySem.W.clsIn K C).isSome = true
  ga : PySem.W.findIn K (.ref C) "__getattribute__" = some (some (.builtin "BaseException.__getattribute__"))
  gg : PySem.W.findIn K (.ref C) "__getattr__" = some none
  sb : PySem.W.subIn K (.ref C) (.type "BaseException") = some true
  hd : PySem.W.hasDictIn K C = true
  ca : PySem.W.findIn K (.ref C) "__class__" = some (some (.builtin "object.__class__"))
  gn : PySem.W.specialIn K (.builtin "object.__class__") "__get__" = some (some (.builtin "getset_descriptor.__get__"))
  tk : PySem.W.takesIn K (.builtin "object.__class__") = some true
  mo : PySem.W.mroIn K C (.type "object") = some true
def exfB (K : PySem.W.Frag) (C : Addr) : Bool :=
  (PySem.W.clsIn K C).isSome && (decide (PySem.W.findIn K (.ref C) "__getattribute__" = some (some (.builtin "BaseException.__getattribute__"))) && (decide (PySem.W.findIn K (.ref C) "__getattr__" = some none) && (decide (PySem.W.subIn K (.ref C) (.type "BaseException") = some true) &&
  (PySem.W.hasDictIn K C && (decide (PySem.W.findIn K (.ref C) "__class__" = some (some (.builtin "object.__class__"))) && (decide (PySem.W.specialIn K (.builtin "object.__class__") "__get__" = some (some (.builtin "getset_descriptor.__get__"))) &&
  (decide (PySem.W.takesIn K (.builtin "object.__class__") = some true) && decide (PySem.W.mroIn K C (.type "object") = some true))))))))
theorem exfB_ok {K : PySem.W.Frag} {C : Addr} (h : exfB K C = true) : ExF K C := by
  unfold exfB at h
  simp only [Bool.and_eq_true, decide_eq_true_eq] at h
  obtain ⟨h1, h2, h3, h4, h5, h6, h7, h8, h9⟩ := h
  exact ⟨h1, h2, h3, h4, h5, h6, h7, h8, h9⟩
/-- the exception of this suite -/
def ExcIn (X : Cx) (a dx C : Addr) : Prop := ∃ oe, (a, oe) ∈ X.pn ∧ Zc (.ref C) (some dx) oe ∧ ∃ vs, oe.data = .fields vs
def isxW (a0 dx0 : Nat) (c0 : Str) (b : Bool) : W → Sto → Out W
  | .d (.exc a dx c _), S => if a = a0 ∧ dx = dx0 ∧ c = c0 then .ok (.d (.bl b)) S else .bad
  | _, _ => .bad
def dIsX (a0 dx0 : Nat) (c0 : Str) (b : Bool) (da : DE) : DE := fun ρ S => (da ρ S).bind (isxW a0 dx0 c0 b)
def xfW (a0 dx0 : Nat) (c0 : Str) (f : Str) : W → Sto → Out W
  | .d (.exc a dx c fs), S => if a = a0 ∧ dx = dx0 ∧ c = c0 then (match fs.lookup f with
    | some x => .ok (.d x) S
    | none => .bad) else .bad
  | _, _ => .bad
def dXf (a0 dx0 : Nat) (c0 : Str) (f : Str) (da : DE) : DE := fun ρ S => (da ρ S).bind (xfW a0 dx0 c0 f)
theorem RFs.look {K : PySem.W.Frag} {mg : Str → Option Value} {G : Hp} {f : Str} {x : D} : ∀ {vs : List (Str × V)} {ds : List (Str × D)}, RFs K mg G vs ds → ds.lookup f = some x → ∃ v, vs.lookup f = some v ∧ RV K mg G v x
  | _, _, .nil, h => by cases h
  | _, _, @RFs.cons _ _ _ g v vs y ds q r, h => by
    rw [List.lookup_cons] at h
    rw [List.lookup_cons]
    cases e : (f == g) with
    | true =>
      rw [e] at h
      cases h
      exact ⟨v, rfl, q⟩
    | false =>
      rw [e] at h
      exact RFs.look r h
section
variable {X : Cx} {a dx C : Addr} {Wx : WX}
theorem ExcIn.inst {pins : List (Addr × Obj)} {σ : L2.St} {H : Hp} {s : Shared} {fs : List (Str × V)} (E : ExcIn X a dx C) (I : Inv X pins σ H s) (e : H dx = some (.xd fs)) : ∃ oe od mA, PySem.W.InstAt s.heap a oe C (some od) ∧ s.heap.get? dx = some od ∧ s.heap.Ns1 dx mA ∧ (∀ f, RelO (fs.lookup f) (mA f)) := by
  obtain ⟨oe, hp, hz, vs, hd⟩ := E
  obtain ⟨ha, _⟩ := I.pin (a, oe) (List.mem_append_left _ hp)
  have hx : ObjOk X.prog X.w H s.heap dx (.xd fs) := I.hok dx _ e
  obtain ⟨mA, hns, hr⟩ := hx
  obtain ⟨od, ho, hl⟩ := lookIn_ns hns
  refine ⟨oe, od, mA, ⟨ha, hz.1, ?_, ?_⟩, ho, hns, hr⟩
  · unfold PySem.W.notCls
    rw [hd] <;> rfl
  · rw [hz.2]
    exact ho
def rIsX (K : PySem.W.Frag) (C a dx : Addr) : List V → Hp → VK → Prop := fun xs H Q => ∃ (c : V) (cv : Value) (b : Bool) (fs : List (Str × V)), xs = [.ref a, c] ∧ (∀ u, RelV c u → u = cv) ∧ PySem.W.kitOne K (.ref C) cv = some b ∧ H dx = some (.xd fs) ∧ Q (.bl b) H
theorem call_isX (F : ExF X.K C) (E : ExcIn X a dx C) : CallR X (.builtin "isinstance") (rIsX X.K C a dx) := by
  rintro pins s σ H xs us Q I r ⟨c, cv, b, fs, rfl, hcv, hk, hd, q⟩
  cases r with
  | cons rx rr => cases rr with
    | cons rt rr =>
      cases rr
      cases rx
      obtain rfl := hcv _ rt
      obtain ⟨oe, od, mA, J, _⟩ := E.inst I hd
      exact PySem.W.kia_one (PySem.W.kitx_exc F.cl F.ga F.gg F.sb F.ca F.gn F.tk F.mo) I.kIn J hk (fun z => nomatch z) fun tk => ⟨.bl b, H, I.kept (t' := tk) fun _ _ z => z, rfl, q⟩
/-- a class's name -/
theorem pe_names {T : Str} {cv : Value} {v : V} {p : Pos} (N : Names X T cv) (hv : RelV v cv) : PE X (.Name T p) (tC v) := by
  refine ⟨fun pins s σ H Q I h => ?_⟩
  obtain ⟨hg, hdb, hm | ⟨hm, hb, hn⟩⟩ := N
  · exact ld_glob I hg hm ⟨v, H, I, hv, h⟩ hdb
  · exact ld_blt I hg hm hb ⟨v, H, I, hv, h⟩ hn hdb
def isCls : Value → Option V
  | .ref a => some (.ref a)
  | .type T => some (.ty T)
  | _ => none
theorem e_isx {e : Expr} {T : Str} {cv : Value} {v : V} {b : Bool} {p p2 pos : Pos} {da : DE} {c0 : Str} (F : ExF X.K C) (E : ExcIn X a dx C) (N : Names X T cv) (hv : isCls cv = some v) (hk : PySem.W.kitOne X.K (.ref C) cv = some b) (ha : JE X e da Wx) (hm : X.mg "isinstance" = none) (hg : Gl X "isinstance" := by rfl)
    (he : starEach [e, .Name T p2] X.env = (false, eval e X.env) :: starEach [.Name T p2] X.env := by rfl) :
    JE X (.Call (.Name "isinstance" p) [e, .Name T p2] [] pos) (dIsX a dx c0 b da) Wx := by
  have hv' : RelV v cv ∧ ∀ u, RelV v u → u = cv := by
    cases cv <;> cases hv
    · exact ⟨rfl, fun u h => h⟩
    · exact ⟨rfl, fun u h => h⟩
  refine PE_imp (pe_callB (call_isX F E) hg hm (by decide +kernel) (pa_cons ha (pa_cons (pe_names (v := v) N hv'.1) pa_nil) he) (he := he)) ?_
  rintro σ H Q ⟨G, A, F', ρ, S, rel, rs, sep, po⟩
  refine e_then rel rs sep po fun w S1 u H1 G1 A1 F1 x1 r1 z1 s1 rs1 sep1 f1 po1 => ?_
  show ∃ _, _
  unfold isxW at po1
  split at po1
  · cases z1 with
    | d q =>
      split at po1
      · rename_i ee
        obtain ⟨rfl, rfl, rfl⟩ := ee
        cases q with
        | exc g r =>
          exact ⟨v, cv, b, _, rfl, hv'.2, hk, r1.ext _ _ g, po1 _ H1 G1 A1 [] .refl r1 (.d (.bl b)) .nil (fun _ m => nomatch m)⟩
      · exact po1.elim
  · exact po1.elim
theorem e_xf {e : Expr} {f : Str} {pos : Pos} {da : DE} {c0 : Str} (F : ExF X.K C) (E : ExcIn X a dx C) (hno : PySem.W.findIn X.K (.ref C) f = some none) (ha : JE X e da Wx) (hb : attributeBase e f X.env (eval e X.env) = eval e X.env := by rfl) :
    JE X (.Attribute e f pos) (dXf a dx c0 f da) Wx := by
  refine ⟨fun pins s σ H Q I h => ?_⟩
  obtain ⟨G, A, F', ρ, S, rel, rs, sep, po⟩ := h
  refine attr_of hb (thn (ha.run pins s σ H (fun u H1 => ∃ fs v, u = .ref a ∧ H1 dx = some (.xd fs) ∧ fs.lookup f = some v ∧ Q v H1) I ?_) fun u s1 hh => ?_)
  · refine e_then rel rs sep po fun w S1 u H1 G1 A1 F1 x1 r1 z1 s1 rs1 sep1 f1 po1 => ?_
    unfold xfW at po1
    split at po1
    · cases z1 with
      | d q =>
        split at po1
        · rename_i ee
          obtain ⟨rfl, rfl, rfl⟩ := ee
          split at po1
          · rename_i x ex
            cases q with
            | exc g r =>
              obtain ⟨v, hv, rv⟩ := RFs.look r ex
              exact ⟨_, v, rfl, r1.ext _ _ g, hv, po1 _ H1 G1 A1 [] .refl r1 (.d rv) .nil (fun _ m => nomatch m)⟩
          · exact po1.elim
        · exact po1.elim
    · exact po1.elim
  · obtain ⟨x, H1, I1, rx, fs, v, ex, ed, l, q⟩ := hh
    subst ex
    obtain rfl : u = Value.ref a := rx
    obtain ⟨oe, od, mA, J, ho, hns, hr⟩ := E.inst I1 ed
    obtain ⟨od', ho', hl⟩ := lookIn_ns hns
    obtain rfl : od = od' := Option.some.inj (ho.symm.trans ho')
    obtain ⟨u, hu, ru⟩ := RelO.some_of (v := v) (o := mA f) (by rw [← l]; exact hr f)
    exact HandSPX.exc_get I1.kIn J F.ga F.gg F.sb (PySem.W.findObj_own F.hd hno rfl (by rw [hl, hu])) (handed_of ru) ⟨v, H1, I1.tok _, ru, q⟩
end
end DX

set_option Elab.async false
set_option linter.all false
set_option maxRecDepth 100000
set_option maxHeartbeats 4000000
/-! raise of an own exception -/
namespace DX
open PySem L2 DL
section
variable {K : PySem.W.Frag} {mg : Str → Option Value} {P : Program} {w : World} {base : Heap}
theorem okC {CX : CXT} {x qual : Str} {st : Stmt} {f : Addr} {fd : FuncData} {N ps : List Str} {k : Nat} {sp : Sp} (Fh : Fun K x qual st f fd) (S : FnScope N ps (defScope st)) (len : ∀ vs H Q E, sp vs H Q E → vs.length = ps.length)
    (hb : ∀ (cdv : Value) (A : Around) (outer : List Env) (s : Shared) (H : Hp) (vs : List V) (Q : VK) (E : XK), Room k (A.deeper (PyProof.Rows.envOfC qual (defScope st) s.heap.objs.size f cdv)) → sp vs H Q E →
      ∃ t, PSs (cxOf CX P w K mg base N qual (defScope st) f cdv A outer s H E) (defBody st) t ∧ t { nx := fun _ H' => Q .non H', rt := Q } (L2.start N vs) H) : FnOk P w K mg base CX (k + 1) f fd ps sp := by
  obtain ⟨oc, od, kV, doc, pm, an, cdv, ct, osl, rfl, lk, hcd⟩ := Fh.ex
  exact fn_of lk hcd S len fun A outer s H vs Q E r h => hb cdv A outer s H vs Q E r h
def spI (C : Addr) : List Str → Sp
  | [f] => fun vs H Q _ => ∃ a v, vs = [.ref a, v] ∧ H a = some (exo a C none) ∧ ∀ dx, H dx = none → dx ≠ a → Q .non (upd (upd H dx (exd dx [(f, v)])) a (exo a C (some dx)))
  | [f, g] => fun vs H Q _ => ∃ a v u, vs = [.ref a, v, u] ∧ H a = some (exo a C none) ∧ ∀ dx, H dx = none → dx ≠ a → Q .non (upd (upd (upd H dx (exd dx [(f, v)])) a (exo a C (some dx))) dx (exd dx [(g, u), (f, v)]))
  | _ => fun _ _ _ _ => False
theorem init1 {CX : CXT} {C fI : Addr} {qual f a1 : Str} {st : Stmt} {fd : FuncData} {p1 p2 p3 p4 : Pos} (Fh : Fun K "__init__" qual st fI fd) (S : FnScope ["self", a1] ["self", a1] (defScope st)) (T : ExcT K C fI [f]) (hb : defBody st = [.Assign [.Attribute (.Name "self" p1) f p2] (.Name a1 p3) p4])
    (hv1 : (defScope st).names.lookup ("self" : Str) = some .local := by rfl) (hv2 : (defScope st).names.lookup a1 = some .local := by rfl) (hd : (a1 == ("__debug__" : Str)) = false := by decide) (hcd : (a1 == ("__classdict__" : Str)) = false := by decide) :
    FnOk P w K mg base CX 1 fI fd ["self", a1] (spI C [f]) := by
  refine okC Fh S (fun vs H Q E h => ?_) fun cdv A outer s H vs Q E hr h => ?_
  · obtain ⟨a, v, rfl, _⟩ := h; rfl
  · obtain ⟨a, v, rfl, e, q⟩ := h
    rw [hb]
    refine ⟨_, pss_one (ps_put (pe_var (i := 0) rfl (.inl hv1)) (pe_var (i := 1) rfl (.inl hv2) hd hcd)), ?_⟩
    exact ⟨v, rfl, .ref a, rfl, a, C, fI, [f], rfl, T, List.mem_cons_self, .inl ⟨e, fun dx n ne => q dx n ne⟩⟩
theorem init2 {CX : CXT} {C fI : Addr} {qual f g a1 a2 : Str} {st : Stmt} {fd : FuncData} {p1 p2 p3 p4 p5 p6 p7 p8 : Pos} (Fh : Fun K "__init__" qual st fI fd) (S : FnScope ["self", a1, a2] ["self", a1, a2] (defScope st)) (T : ExcT K C fI [f, g])
    (hb : defBody st = [.Assign [.Attribute (.Name "self" p1) f p2] (.Name a1 p3) p4, .Assign [.Attribute (.Name "self" p5) g p6] (.Name a2 p7) p8])
    (hv1 : (defScope st).names.lookup ("self" : Str) = some .local := by rfl) (hv2 : (defScope st).names.lookup a1 = some .local := by rfl) (hv3 : (defScope st).names.lookup a2 = some .local := by rfl) (hd : (a1 == ("__debug__" : Str)) = false := by decide) (hcd : (a1 == ("__classdict__" : Str)) = false := by decide)
    (hd2 : (a2 == ("__debug__" : Str)) = false := by decide) (hcd2 : (a2 == ("__classdict__" : Str)) = false := by decide) :
    FnOk P w K mg base CX 1 fI fd ["self", a1, a2] (spI C [f, g]) := by
  refine okC Fh S (fun vs H Q E h => ?_) fun cdv A outer s H vs Q E hr h => ?_
  · obtain ⟨a, v, u, rfl, _⟩ := h; rfl
  · obtain ⟨a, v, u, rfl, e, q⟩ := h
    rw [hb]
    refine ⟨_, pss_cons (ps_put (pe_var (i := 0) rfl (.inl hv1)) (pe_var (i := 1) rfl (.inl hv2) hd hcd)) (pss_one (ps_put (pe_var (i := 0) rfl (.inl hv1)) (pe_var (i := 2) rfl (.inl hv3) hd2 hcd2))), ?_⟩
    refine ⟨v, rfl, .ref a, rfl, a, C, fI, [f, g], rfl, T, List.mem_cons_self, .inl ⟨e, fun dx n ne => ?_⟩⟩
    refine ⟨u, rfl, .ref a, rfl, a, C, fI, [f, g], rfl, T, by simp, .inr ⟨dx, [(f, v)], upd_same, ?_, by simp, q dx n ne⟩⟩
    rw [upd_ne ne, upd_same]
end
structure Xc (P : Program) (w : World) (K : PySem.W.Frag) (mg : Str → Option Value) (base : Heap) (x : Str) (fs : List Str) : Prop where
  ex : ∃ C fI fd ps, mg x = some (.ref C) ∧ ExcT K C fI fs ∧ ExF K C ∧ L2.Binds K fd ps [] ∧ ∀ CX, FnOk P w K mg base CX 1 fI fd ps (spI C fs)
/-- C(e, ..) where its __init__ keeps sp; its context is None -/
theorem mk_exc5 {X : Cx} {C fI : Addr} {ns : List Str} {CX : CXT} {x : Str} {e : Expr} {es : List Expr} {ta : TA} {p pos : Pos} {k : Nat} {fd : FuncData} {ps : List Str} {sp : Sp} (T : ExcT X.K C fI ns) (F1 : FnOk X.prog X.w X.K X.mg X.base CX k fI fd ps sp) (hr : Room (k + 1) X.A) (hb : L2.Binds X.K fd ps [])
    (hx : Passes CX X (fun _ _ _ => False)) (hg : Gl X x) (hm : X.mg x = some (.ref C)) (ha : PA X (e :: es) ta) (hdb : (x == ("__debug__" : Str)) = false := by decide) (he : starEach (e :: es) X.env = (false, eval e X.env) :: starEach es X.env := by rfl) (hpl : (backTo pos (starEach es X.env)).any (·.1) = false := by rfl) :
    L2H.PMk5 X (.Call (.Name x p) (e :: es) [] pos) (tMkO C sp [] ta) := by
  intro pins s σ H Q I h
  refine wpAny_Call_Name_kw (ld_glob I hg hm ?_ hdb)
  refine PySem.W.callWith_K (h₀ := X.base) I.ok.mod.kin T.kC (thn (ha.run pos pins s σ H _ I h) fun us s1 ⟨vs, H1, I1, r1, hz, q1⟩ => ⟨I1.kIn, ?_⟩) he hpl
  show wpAny _ _ (call (.ref C) us) _ _ _
  obtain ⟨hp, g, dr, tk, os⟩ := s1
  obtain ⟨nm, N', qn, bs, bm, hdct, sn, sub, ab, col, dd, k0, k1, k2, k3, k5, hC, hT⟩ := PySem.W.excInit_of I1.kIn T.ini
  have hn : H1 (hp.objs.size + 1) = none := I1.hok.fresh (Nat.le_succ _)
  have hq := q1 (hp.objs.size + 1) hn
  have kk : ∀ b o, hp.get? b = some o → ((hp.push (PySem.W.kdv_tup us)).push (HandSPX.excO C hp.objs.size)).get? b = some o := fun b o z => Heap.get?_push_of_some _ (Heap.get?_push_of_some _ z)
  have hget : ((hp.push (PySem.W.kdv_tup us)).push (HandSPX.excO C hp.objs.size)).get? (hp.objs.size + 1) = some (HandSPX.excO C hp.objs.size) := by heap_get
  have I2 : Inv X pins σ (upd H1 (hp.objs.size + 1) (exo (hp.objs.size + 1) C none)) ⟨(hp.push (PySem.W.kdv_tup us)).push (HandSPX.excO C hp.objs.size), g, dr, tk, os⟩ :=
    I1.laid (t' := tk) (a := hp.objs.size + 1) (o := exo (hp.objs.size + 1) C none) (h' := (hp.push (PySem.W.kdv_tup us)).push (HandSPX.excO C hp.objs.size)) kk (Nat.le_succ _) (exo_ok hget)
  have r2 : Vals (V.ref (hp.objs.size + 1) :: (vs ++ [])) (Value.ref (hp.objs.size + 1) :: (us ++ [])) := .cons rfl (r1.append .nil)
  have hl : (Value.ref (hp.objs.size + 1) :: us).length = ps.length := by
    have z := r2.length
    rw [F1.len _ _ _ _ hq] at z
    simpa using z.symm
  have hus : us.length ≤ sizeLine := by rw [← Paired.length r1, sizeLine_eq]; omega
  obtain ⟨oI, hoI, hcI⟩ : ∃ oI, hp.get? fI = some oI ∧ oI.cls = .type "function" := by
    obtain ⟨o, ho, hc⟩ := Option.map_eq_some_iff.mp (show (X.K.lookup fI).map (·.cls) = some (.type "function") from beq_iff_eq.mp T.fnI)
    exact ⟨o, I1.kIn _ _ ho, hc⟩
  refine wpAny_call (HandSPX.call_own F.excBase_ArithmeticError hT hC (PySem.W.looks_findIn I1.kIn T.iC) (fun self => PySem.W.exc_bind hoI hcI self) hus
    (codeAny_mono (F1.run _ X.stack _ _ ⟨Value.ref (hp.objs.size + 1) :: us, []⟩ (Value.ref (hp.objs.size + 1) :: (us ++ [])) _ _ (fun _ _ _ => False) (hr.make C us []) (I2.env0.make C us []) (by simpa using hb _ (Value.ref (hp.objs.size + 1) :: us) I2.kIn (by simpa using hl)) r2 hq) fun r s' hq' => ?_))
  cases r with
  | error er => exact hx pins σ _ _ er s' I2 hq'
  | ok fl =>
    cases fl with
    | ret u =>
      obtain ⟨v, H2, os2, bare2, un2, hok2, rv, ev, d, fs, ea, ed, hd1, q2⟩ := hq'
      subst ev
      obtain ⟨h2, g2, d2, t2, os'⟩ := s'
      obtain ⟨t0, G, J, kG, ge, hoe, na⟩ := mk_end0 (d2 := d2) (t2 := t2) I1 (Nat.le_succ _) kk un2 hok2 os2 bare2 ea ed hd1
      refine ⟨rv, ⟨hp.objs.size + 1, _, _, ⟨G, g2, d2, t2, os'⟩, _, .ref C, some d, rfl, J, kG, ge, hoe, ⟨rfl, rfl, fun vs hv => ?_⟩, rfl, rfl, na, rfl, bare2, raises_own T.exC T.tyC, q2⟩, fun a oe vs ea2 hg2 hd2 => ?_⟩
      · cases hv
        rfl
      · cases ea2
        cases (show some _ = some oe from hoe.symm.trans hg2)
        cases hd2
        show (4 : Nat) < 6
        decide
    | next => exact False.elim hq'
    | brk => exact False.elim hq'
    | cont => exact False.elim hq'
theorem mkp_weak {X : Cx} {e : Expr} {t : L2.St → Hp → XK → Prop} (h : L2N.PMk X e t) : PMk X e t := fun pins s σ H Q I q => thn (h pins s σ H Q I q) fun u s' ⟨a, oe, vs, sI, H', cls, d, q1, q2, q3, q4, q5, q6, r⟩ => ⟨a, oe, vs, sI, H', cls, d, q1, q2, q3, q4, q5, q6.zc, r⟩
/-! ### the denotation -/
def exnOf (c : Str) (fs : List Str) (xs : List D) : Exn := ⟨c, (fs.zip xs).reverse⟩
def raiseK (c : Str) (fs : List Str) (ρ : Ev) (ws : List W) (S : Sto) : SOut := match dsOf ws with
  | some xs => if xs.length = fs.length ∧ (fs.length = 1 ∨ fs.length = 2) then .ex (exnOf c fs xs) ρ S else .bad
  | none => .bad
def dRaise (c : Str) (fs : List Str) (a : DA) : DS := fun ρ S => sb (a ρ S) ρ (raiseK c fs ρ)
section
variable {K : PySem.W.Frag} {mg : Str → Option Value} {Wx : WX} {en : En}
theorem s_thenA {σ : L2.St} {ρ : Ev} {H G : Hp} {A F : List Addr} {S : Sto} {Dn : Ends} {da : DA} {k : List W → Sto → SOut} {R : List V → Hp → Prop} (h : SR K mg en σ ρ H G A F S) (po : PostS K mg en Wx Dn (sb (da ρ S) ρ k))
    (hk : ∀ w S1 v H1 G1 A1 F1, Ext H G A H1 G1 A1 → Rel K mg H1 G1 A1 S1 → RWs K mg H1 G1 A1 v w F1 → Sep F1 G1 A1 → (∀ a ∈ F1, H a = none) → SR K mg en σ ρ H1 G1 A1 F S1 → PostS K mg en Wx Dn (k w S1) → R v H1) : tA K mg da Wx σ H R := by
  refine ⟨G, A, F, ρ, S, h.rel, h.rs, h.sep, ?_⟩
  cases e : da ρ S with
  | bad => rw [e] at po; exact po
  | ex x S1 =>
    rw [e] at po
    intro c d H' G' A' y r z
    exact po c d σ H' G' A' F (h.step y r) (RX.from h.ext z)
  | ok w S1 =>
    rw [e] at po
    exact fun v H1 G1 A1 F1 x r z s f => hk w S1 v H1 G1 A1 F1 x r z s f (h.step x r) po
theorem RVs.len {G : Hp} : ∀ {vs : List V} {xs : List D}, RVs K mg G vs xs → vs.length = xs.length
  | _, _, .nil => rfl
  | _, _, .cons _ r => by simp [RVs.len r]
theorem hfin1 {H1 : Hp} {a dx : Addr} {o1 o2 o3 x : HO} (na : H1 a = none) (ne : dx ≠ a) : upd (del (upd (upd (upd H1 a o1) dx o2) a o3) a) dx x = upd H1 dx x := by
  funext b
  by_cases h1 : b = dx
  · subst h1; rw [upd_same, upd_same]
  · rw [upd_ne h1, upd_ne h1]
    unfold del
    split
    · rename_i h; subst h; exact na.symm
    · rename_i h; rw [upd_ne h, upd_ne h1, upd_ne h]
theorem hfin2 {H1 : Hp} {a dx : Addr} {o1 o2 o3 o4 x : HO} (na : H1 a = none) (ne : dx ≠ a) : upd (del (upd (upd (upd (upd H1 a o1) dx o2) a o3) dx o4) a) dx x = upd H1 dx x := by
  funext b
  by_cases h1 : b = dx
  · subst h1; rw [upd_same, upd_same]
  · rw [upd_ne h1, upd_ne h1]
    unfold del
    split
    · rename_i h; subst h; exact na.symm
    · rename_i h; rw [upd_ne h1, upd_ne h, upd_ne h1, upd_ne h]
/-- what the class's __init__ leaves -/
theorem raise_ok {σ : L2.St} {H : Hp} {C : Addr} {x : Str} {fs : List Str} {da : DA} {Dn : Ends} (hm : mg x = some (.ref C)) (h : tS K mg en (dRaise x fs da) Wx Dn σ H) : tMkO C (spI C fs) [] (tA K mg da Wx) σ H fun cls d H' => Wx cls d σ H' := by
  obtain ⟨G, A, F, ρ, S, h, po⟩ := h
  refine s_thenA h po fun ws S1 vs H1 G1 A1 F1 x1 r1 z1 s1 f1 h1 po1 => ?_
  unfold raiseK at po1
  split at po1
  · rename_i xs ex
    split at po1
    · rename_i hl0
      obtain ⟨hl, hl2⟩ := hl0
      have rv := z1.ds ex
      have hvl := RVs.len rv
      have fin : ∀ dx (vfs : List (Str × V)), H1 dx = none → RFs K mg G1 vfs (fs.zip xs).reverse → Wx (.ref C) (some dx) σ (upd H1 dx (.xd vfs)) := fun dx vfs hn rf => by
        have r2 := h1.rel.layO (o := .xd vfs) hn
        exact po1 _ _ σ _ G1 A1 F (h1.step (Ext.layO hn) r2) ⟨hm, dx, vfs, rfl, upd_same, rf, fresh_from h1.ext hn⟩
      match fs, hl, hl2, po1, fin with
      | [f], hl, _, po1, fin =>
        match xs, rv, hl, hvl with
        | [x], rv, hl, hvl =>
          obtain ⟨v, rfl, q⟩ := rv.one
          refine ⟨by simp, fun a na => ⟨a, v, rfl, upd_same, fun dx hn ne => ⟨rfl, dx, [(f, v)], upd_same, ?_, ?_, ?_⟩⟩⟩
          · rw [upd_ne ne, upd_same]
          · rw [upd_ne ne] at hn; exact hn
          · rw [hfin1 na ne]
            rw [upd_ne ne] at hn
            exact fin dx _ hn (.cons q .nil)
      | [f, g], hl, _, po1, fin =>
        match xs, rv, hl, hvl with
        | [x, y], rv, hl, hvl =>
          obtain ⟨v, u, rfl, q, q2⟩ := rv.two
          refine ⟨by simp, fun a na => ⟨a, v, u, rfl, upd_same, fun dx hn ne => ⟨rfl, dx, [(g, u), (f, v)], ?_, upd_same, ?_, ?_⟩⟩⟩
          · rw [upd_ne (Ne.symm ne), upd_same]
          · rw [upd_ne ne] at hn; exact hn
          · rw [hfin2 na ne]
            rw [upd_ne ne] at hn
            exact fin dx _ hn (.cons q2 (.cons q .nil))
      | [], _, h2, _, _ => exact absurd h2 (by simp)
      | _ :: _ :: _ :: _, _, h2, _, _ => exact absurd h2 (by simp)
    · exact po1.elim
  · exact po1.elim
end
section
variable {X : Cx} {Wx : WX} {en : En}
theorem s_raise {x : Str} {fs : List Str} {e : Expr} {es : List Expr} {da : DA} {p pos pos2 : Pos} (c : Xc X.prog X.w X.K X.mg X.base x fs) (hr : Room 2 X.A) (hc : X.calm = true) (tk : L2.Takes X Wx) (ha : JA X (e :: es) da Wx) (hg : Gl X x := by rfl) (hdb : (x == ("__debug__" : Str)) = false := by decide)
    (he : starEach (e :: es) X.env = (false, eval e X.env) :: starEach es X.env := by rfl) (hpl : (backTo pos (starEach es X.env)).any (·.1) = false := by rfl) : JS X en (.Raise (some (.Call (.Name x p) (e :: es) [] pos)) none pos2) (dRaise x fs da) Wx := by
  obtain ⟨C, fI, fd, ps, hm, T, _, hb, ok⟩ := c.ex
  exact PS_imp (L2.ps_raise hc tk (mkp_weak (mk_exc5 T (ok (L2.CX X.prog X.w)) hr hb (L2.passes_call tk fun _ _ _ _ z => z.elim) hg hm ha hdb he hpl).pmk)) fun Dn σ H h => raise_ok hm h
theorem s_raiseN {x : Str} {fs : List Str} {e : Expr} {es : List Expr} {da : DA} {p pos pos2 : Pos} (c : Xc X.prog X.w X.K X.mg X.base x fs) (hr : Room 2 X.A) (hc : X.calm = true) (tk : L2N.Takes X Wx) (ha : JA X (e :: es) da Wx) (hg : Gl X x := by rfl) (hdb : (x == ("__debug__" : Str)) = false := by decide)
    (he : starEach (e :: es) X.env = (false, eval e X.env) :: starEach es X.env := by rfl) (hpl : (backTo pos (starEach es X.env)).any (·.1) = false := by rfl) : JS X en (.Raise (some (.Call (.Name x p) (e :: es) [] pos)) none pos2) (dRaise x fs da) Wx := by
  obtain ⟨C, fI, fd, ps, hm, T, _, hb, ok⟩ := c.ex
  exact PS_imp (L2N.ps_raise hc tk (mk_exc5 T (ok (L2N.CX X.prog X.w)) hr hb (L2N.passes_call tk fun _ _ _ _ z => z.elim) hg hm ha hdb he hpl).pmk) fun Dn σ H h => raise_ok hm h
end
end DX

set_option Elab.async false
set_option linter.all false
set_option maxRecDepth 100000
set_option maxHeartbeats 4000000
/-! defs whose exceptions have no context (FxN); defs called while an exception is handled (FxX); try with one clause -/
namespace DX
open PySem L2 DL L2H
/-! ### FxN -/
structure FxN (P : Program) (w : World) (K : PySem.W.Frag) (mg : Str → Option Value) (base : Heap) (k : Nat) (x : Str) (np : Nat) (f : DF) : Prop where
  ex : ∃ a fd ps, mg x = some (.ref a) ∧ PySem.W.keepIn K (.ref a) = true ∧ L2.Binds K fd ps [] ∧ FnOk P w K mg base (L2N.CX P w) k a fd ps (spD K mg np f)
  len : ∀ ws S, f ws S ≠ .bad → ws.length = np
theorem cx_weak {P : Program} {w : World} {outer : List Env} {H : Hp} {s : Shared} {E : XK} {u : Value} {s' : Shared} (h : L2N.CX P w outer H s E u s') : L2.CX P w outer H s E u s' := by
  obtain ⟨a, B, H', cls, d, h1, h2, h3⟩ := h
  refine ⟨a, B, H', cls, d, h1, ?_, h3⟩
  obtain ⟨k1, k2, k3, oe, vs, T, oT, ts, he, hz, r⟩ := h2
  exact ⟨k1, k2, k3, oe, vs, T, oT, ts, he, hz.zc, r⟩
section
variable {K : PySem.W.Frag} {mg : Str → Option Value} {P : Program} {w : World} {base : Heap}
theorem FxN.fx {k : Nat} {x : Str} {np : Nat} {f : DF} (h : FxN P w K mg base k x np f) : Fx P w K mg base k x np f := by
  obtain ⟨⟨a, fd, ps, h1, h2, h3, h4⟩, hl⟩ := h
  refine ⟨⟨a, fd, ps, h1, h2, h3, ⟨h4.len, fun A outer s H args us vs Q E q1 q2 q3 q4 q5 => codeAny_mono (h4.run A outer s H args us vs Q E q1 q2 q3 q4 q5) fun r s' c => ?_⟩⟩, hl⟩
  cases r with
  | error e => exact cx_weak c
  | ok fl => cases fl <;> exact c
theorem fx_okN {x : Str} {st : Stmt} {f : Addr} {fd : FuncData} {N ps : List Str} {k np n : Nat} {body : DS} (Fh : Fun K x x st f fd) (S : FnScope N ps (defScope st)) (hp : ps.length = np) (hn : N.length = n) (hm : mg x = some (.ref f)) (bi : L2.Binds K fd ps [])
    (hb : ∀ (cdv : Value) (A : Around) (outer : List Env) (s : Shared) (H : Hp) (E : XK) (en : En), Room k (A.deeper (PyProof.Rows.envOfC x (defScope st) s.heap.objs.size f cdv)) → L2N.Takes (cxOf (L2N.CX P w) P w K mg base N x (defScope st) f cdv A outer s H E) (fun cls d _ H => E cls d H) →
      JB (cxOf (L2N.CX P w) P w K mg base N x (defScope st) f cdv A outer s H E) en (defBody st) body (fun cls d _ H => E cls d H)) : FxN P w K mg base (k + 1) x np (dFn np n body) := by
  subst hp hn
  refine ⟨⟨f, fd, ps, hm, Fh.kp, bi, okC Fh S (fun vs H Q E h => h.1) fun cdv A outer s H vs Q E hr h => ?_⟩, dFn_len⟩
  obtain ⟨hl, G, Ad, ws, Sd, rel, rws, po⟩ := h
  refine ⟨_, hb cdv A outer s H E ⟨H, G, Ad, G⟩ hr (L2N.takes_of rfl rfl rfl rfl), ?_⟩
  have hw : ws.length = ps.length := by rw [← rws.len]; exact hl
  refine ⟨G, Ad, [], ws.map some ++ List.replicate (N.length - ps.length) none, Sd, ⟨rel, ?_, .nil, .refl, (fun a m => nomatch m), Same.refl _⟩, ?_⟩
  · unfold L2.start
    rw [hl]
    exact RS.args rws
  · unfold dFn at po
    rw [if_pos hw] at po
    cases e : body (ws.map some ++ List.replicate (N.length - ps.length) none) Sd with
    | nx r S1 => rw [e] at po; exact fun σ H1 G1 A1 F1 h => po .non H1 G1 A1 [] h.ext h.rel (.d .non) .nil fun _ m => nomatch m
    | rt w S1 => rw [e] at po; exact po
    | ex x r S1 => rw [e] at po; exact fun c d σ H1 G1 A1 F1 h z => po c d H1 G1 A1 h.ext h.rel z
    | bk r S1 => rw [e] at po; exact po.elim
    | ct r S1 => rw [e] at po; exact po.elim
    | bad => rw [e] at po; exact po.elim
end
section
variable {X : Cx} {Wx : WX} {en : En}
theorem passAtN (tk : L2N.Takes X Wx) (σ : L2.St) : PassesAt (L2N.CX X.prog X.w) X σ (WE Wx σ) := fun _ _ _ e s' I c => tk e s' (L2N.XE.of_call I (fun _ _ _ h => h) c)
theorem e_callN {x : Str} {p pos : Pos} {e : Expr} {es : List Expr} {k np : Nat} {f : DF} {da : DA} (Fh : FxN X.prog X.w X.K X.mg X.base k x np f) (hr : Room k X.A) (tk : L2N.Takes X Wx) (ha : JA X (e :: es) da Wx) (hg : Gl X x := by rfl) (hdb : (x == ("__debug__" : Str)) = false := by decide)
    (he : starEach (e :: es) X.env = (false, eval e X.env) :: starEach es X.env := by rfl) (hpl : (backTo pos (starEach es X.env)).any (·.1) = false := by rfl) :
    JE X (.Call (.Name x p) (e :: es) [] pos) (dCall f da) Wx := by
  obtain ⟨a, fd, ps, hm, hk, hb, ok⟩ := Fh.ex
  refine PE_imp (pe_callS ok hr hg hm hk hb (fun σ => passAtN tk σ) ha hdb he hpl) ?_
  rintro σ H Q ⟨G, A, F, ρ, S, rel, rs, sep, po⟩
  refine a_then0 rel rs sep po fun ws S1 vs H1 G1 A1 F1 x1 r1 z1 s1 f1 po1 => ?_
  unfold ap at po1
  split at po1
  · rename_i e
    have := z1.stab e
    subst this
    refine ⟨?_, G1, A1, ws, S1, r1, z1, PostE.later x1 po1⟩
    rw [z1.len]
    exact Fh.len ws S1 po1.nb
  · exact po1.elim
end
/-! ### defs called while p is handled -/
structure FnX (P : Program) (w : World) (K : PySem.W.Frag) (mg : Str → Option Value) (base : Heap) (CX : CXT) (k : Nat) (f : Addr) (fd : FuncData) (ps : List Str) (sp : Addr × Obj → Sp) : Prop where
  ln : ∀ p vs H Q E, sp p vs H Q E → vs.length = ps.length
  go : ∀ (p : Addr × Obj) (A : Around) (outer : List Env) (s : Shared) (H : Hp) (args : Args) (us : List Value) (vs : List V) (Q : VK) (E : XK), Hot1 A p → RoomH k A → PinOk outer H s p → Env0 P w K mg base A outer s H → BindsTo s fd args (ps.zip us) → Vals vs us → sp p vs H Q E → codeAny (model P w) A (.call (.ref f) args) (CR CX outer P w H s Q E) s
section
variable {K : PySem.W.Frag} {mg : Str → Option Value} {P : Program} {w : World} {base : Heap}
theorem okX {CX : CXT} {x qual : Str} {st : Stmt} {f : Addr} {fd : FuncData} {N ps : List Str} {k : Nat} {sp : Addr × Obj → Sp} (Fh : Fun K x qual st f fd) (S : FnScope N ps (defScope st)) (ln : ∀ p vs H Q E, sp p vs H Q E → vs.length = ps.length)
    (hb : ∀ (cdv : Value) (p : Addr × Obj) (A : Around) (outer : List Env) (s : Shared) (H : Hp) (vs : List V) (Q : VK) (E : XK), Hot1 A p → RoomH k (A.deeper (PyProof.Rows.envOfC qual (defScope st) s.heap.objs.size f cdv)) → sp p vs H Q E →
      ∃ t, PSs (cxH CX P w K mg base N qual (defScope st) f cdv A outer s H E p) (defBody st) t ∧ t { nx := fun _ H' => Q .non H', rt := Q } (L2.start N vs) H) : FnX P w K mg base CX (k + 1) f fd ps sp := by
  obtain ⟨oc, od, kV, doc, pm, an, cdv, ct, osl, rfl, lk, hcd⟩ := Fh.ex
  refine ⟨ln, fun p A outer s H args us vs Q E hot hr hpin e0 hbd r hsp => ?_⟩
  have inK : K.In s.heap := e0.mod.kin.keeps fun b o z => (e0.bs b o z).1
  have par : ∀ y ∈ ps.zip us, (defScope st).names.lookup y.1 = some .local ∨ ((defScope st).names.lookup y.1 = some .cell ∧ ((cellsFrom (s.heap.objs.size + 1) (defScope st).names []).lookup y.1).isSome = true) := by
    rintro ⟨n, v⟩ hy
    exact (S.par n (List.of_mem_zip hy).1).imp id fun q => ⟨q, PySem.W.cellsFrom_some _ _ _ (.inl q)⟩
  refine codeAny_call_function hr.depth (inK _ _ lk) rfl S.co S.gen rfl (PySem.W.codeRec_of inK hcd) (hbd _ _ _ _ ?_)
  refine wpAny_newFunctionEnv_cells S.kind par ?_
  rintro _ rfl s1 y
  refine ⟨(e0.mod.nolimit.keeps fun b o z => (e0.bs b o z).1).keeps y.toInCall.keep, codeAny_func ?_⟩
  obtain ⟨t, ht, hq⟩ := hb cdv p A outer s H vs Q E hot (hr.deeper _) hsp
  refine wpAny_mono (ht.run [] s1 (L2.start N vs) H _ (inv_startH S hpin e0 (ln _ _ _ _ _ hsp) r y) hq) (fun fl s' z => ?_) fun _ _ z => z
  match fl, z with
  | .ret u, ⟨v, σ', H', J, rv, q⟩ => exact ⟨v, H', J.os, J.bare, J.base, J.hok, rv, q⟩
  | .next, ⟨σ', H', J, q⟩ => exact ⟨V.non, H', J.os, J.bare, J.base, J.hok, rfl, q⟩
  | .brk, ⟨_, _, _, q⟩ => exact q.elim
  | .cont, ⟨_, _, _, q⟩ => exact q.elim
def spX (K : PySem.W.Frag) (mg : Str → Option Value) (np : Nat) (f : Nat → Nat → Str → DF) (p : Addr × Obj) : Sp := fun vs H Q E => vs.length = np ∧ ∃ C dx c, mg c = some (.ref C) ∧ Zc (.ref C) (some dx) p.2 ∧ (∃ vs, p.2.data = .fields vs) ∧
  ∃ G A ws S, Rel K mg H G A S ∧ RWs K mg H G A vs ws [] ∧ PostE K mg H G A E Q (f p.1 dx c ws S)
structure FxX (P : Program) (w : World) (K : PySem.W.Frag) (mg : Str → Option Value) (base : Heap) (k : Nat) (x : Str) (np : Nat) (f : Nat → Nat → Str → DF) : Prop where
  ex : ∃ a fd ps, mg x = some (.ref a) ∧ PySem.W.keepIn K (.ref a) = true ∧ L2.Binds K fd ps [] ∧ FnX P w K mg base (L2.CX P w) k a fd ps (spX K mg np f)
  len : ∀ a dx c ws S, f a dx c ws S ≠ .bad → ws.length = np
theorem fx_okX {x : Str} {st : Stmt} {f : Addr} {fd : FuncData} {N ps : List Str} {k np n : Nat} {body : Nat → Nat → Str → DS} (Fh : Fun K x x st f fd) (S : FnScope N ps (defScope st)) (hp : ps.length = np) (hn : N.length = n) (hm : mg x = some (.ref f)) (bi : L2.Binds K fd ps [])
    (hb : ∀ (cdv : Value) (p : Addr × Obj) (A : Around) (outer : List Env) (s : Shared) (H : Hp) (E : XK) (en : En) (C dx : Addr) (c : Str), Hot1 A p → RoomH k (A.deeper (PyProof.Rows.envOfC x (defScope st) s.heap.objs.size f cdv)) → mg c = some (.ref C) →
      ExcIn (cxH (L2.CX P w) P w K mg base N x (defScope st) f cdv A outer s H E p) p.1 dx C →
      JB (cxH (L2.CX P w) P w K mg base N x (defScope st) f cdv A outer s H E p) en (defBody st) (body p.1 dx c) (fun cls d _ H => E cls d H)) : FxX P w K mg base (k + 1) x np (fun a dx c => dFn np n (body a dx c)) := by
  subst hp hn
  refine ⟨⟨f, fd, ps, hm, Fh.kp, bi, okX Fh S (fun p vs H Q E h => h.1) fun cdv p A outer s H vs Q E hot hr h => ?_⟩, fun a dx c => dFn_len⟩
  obtain ⟨hl, C, dx, c, hC, hz, hd, G, Ad, ws, Sd, rel, rws, po⟩ := h
  refine ⟨_, hb cdv p A outer s H E ⟨H, G, Ad, G⟩ C dx c hot hr hC ⟨p.2, List.mem_cons_self, hz, hd⟩, ?_⟩
  have hw : ws.length = ps.length := by rw [← rws.len]; exact hl
  refine ⟨G, Ad, [], ws.map some ++ List.replicate (N.length - ps.length) none, Sd, ⟨rel, ?_, .nil, .refl, (fun a m => nomatch m), Same.refl _⟩, ?_⟩
  · unfold L2.start
    rw [hl]
    exact RS.args rws
  · dsimp only [dFn] at po
    rw [if_pos hw] at po
    cases e : body p.1 dx c (ws.map some ++ List.replicate (N.length - ps.length) none) Sd with
    | nx r S1 => rw [e] at po; exact fun σ H1 G1 A1 F1 h => po .non H1 G1 A1 [] h.ext h.rel (.d .non) .nil fun _ m => nomatch m
    | rt w S1 => rw [e] at po; exact po
    | ex x r S1 => rw [e] at po; exact fun c d σ H1 G1 A1 F1 h z => po c d H1 G1 A1 h.ext h.rel z
    | bk r S1 => rw [e] at po; exact po.elim
    | ct r S1 => rw [e] at po; exact po.elim
    | bad => rw [e] at po; exact po.elim
end
section
variable {X : Cx} {Wx : WX} {en : En}
theorem run_fnX {CX : CXT} {k : Nat} {f : Addr} {fd : FuncData} {ps : List Str} {sp : Addr × Obj → Sp} {E : L2.St → XK} {p : Addr × Obj} {pins : List (Addr × Obj)} {σ : L2.St} {H : Hp} {s : Shared} {Q : VK} {us : List Value} {vs : List V} (F : FnX X.prog X.w X.K X.mg X.base CX k f fd ps sp) (hot : Hot1 X.A p) (hp : p ∈ X.pn)
    (hr : RoomH k X.A) (hb : L2.Binds X.K fd ps []) (hx : PassesAt CX X σ (E σ)) (I : Inv X pins σ H s) (r : Vals vs us) (h : sp p vs H Q (E σ)) : wpAny (model X.prog X.w) X.A (call (.ref f) us) (EP X pins σ Q) X.xe s := by
  obtain ⟨g1, g2, g3, g4, g5⟩ := I.pin p (List.mem_append_left _ hp)
  have bd : BindsTo s fd ⟨us, []⟩ (ps.zip us) := by simpa using hb s us I.kIn (by simpa [r.length] using F.ln _ _ _ _ _ h)
  refine wpAny_call (codeAny_mono (F.go p X.A X.stack s H ⟨us, []⟩ us vs Q (E σ) hot hr ⟨g1, g2, fun hm => (List.mem_cons.mp (I.stkSub p.1 hm)).elim g3 g4, g5⟩ I.env0 bd r h) ?_)
  rintro (e | fl) s' hq
  · exact hx pins H s e s' I hq
  · match fl, hq with
    | .ret u, hq => exact I.after hq
    | .next, hq => exact hq.elim
    | .brk, hq => exact hq.elim
    | .cont, hq => exact hq.elim
theorem e_callX {x c : Str} {q pos : Pos} {e : Expr} {es : List Expr} {k np : Nat} {f : Nat → Nat → Str → DF} {da : DA} {p : Addr × Obj} {C dx : Addr} (Fh : FxX X.prog X.w X.K X.mg X.base k x np f) (hot : Hot1 X.A p) (hp : p ∈ X.pn) (hr : RoomH k X.A) (hC : X.mg c = some (.ref C)) (hz : Zc (.ref C) (some dx) p.2)
    (hd : ∃ vs, p.2.data = .fields vs) (hx : ∀ σ, PassesAt (L2.CX X.prog X.w) X σ (WE Wx σ)) (ha : JA X (e :: es) da Wx) (hg : Gl X x := by rfl) (hdb : (x == ("__debug__" : Str)) = false := by decide)
    (he : starEach (e :: es) X.env = (false, eval e X.env) :: starEach es X.env := by rfl) (hpl : (backTo pos (starEach es X.env)).any (·.1) = false := by rfl) :
    JE X (.Call (.Name x q) (e :: es) [] pos) (dCall (f p.1 dx c) da) Wx := by
  obtain ⟨a, fd, ps, hm, hk, hb, ok⟩ := Fh.ex
  refine ⟨fun pins s σ H Q I h => ?_⟩
  obtain ⟨G, A, F, ρ, S, rel, rs, sep, po⟩ := h
  refine wpAny_Call_Name_kw (ld_glob I hg hm ?_ hdb)
  refine PySem.W.callWith_K (h₀ := X.base) I.ok.mod.kin hk (thn (ha.run pos pins s σ H (fun vs H1 => spX X.K X.mg np f p vs H1 Q (WE Wx σ)) I ?_) fun us s1 ⟨vs, H1, I1, r, q⟩ => ⟨I1.kIn, ?_⟩) he hpl
  · refine a_then0 rel rs sep po fun ws S1 vs H1 G1 A1 F1 x1 r1 z1 s1 f1 po1 => ?_
    unfold ap at po1
    split at po1
    · rename_i e
      have := z1.stab e
      subst this
      refine ⟨?_, C, dx, c, hC, hz, hd, G1, A1, ws, S1, r1, z1, PostE.later x1 po1⟩
      rw [z1.len]
      exact Fh.len _ _ _ ws S1 po1.nb
    · exact po1.elim
  · exact run_fnX ok hot hp hr hb (hx σ) I1 r q
end
end DX

set_option Elab.async false
set_option linter.all false
set_option maxRecDepth 100000
set_option maxHeartbeats 4000000
/-! try: body, except T as n: suite -/
namespace DX
open PySem L2 DL L2H
/-- the suite's outcome, the name gone -/
def SOut.un (i : Nat) : SOut → SOut
  | .nx ρ S => .nx (ρ.set i none) S
  | .bk ρ S => .bk (ρ.set i none) S
  | .ct ρ S => .ct (ρ.set i none) S
  | o => o
def dTry1 (t : Str → Option Bool) (i : Nat) (body : DS) (res : Str → List (Str × D) → DS) : DS := fun ρ S => match body ρ S with
  | .ex e ρ1 S1 => (match t e.cls with
    | some true => SOut.un i (res e.cls e.fs ρ1 S1)
    | some false => .ex e ρ1 S1
    | none => .bad)
  | o => o
theorem pss_ex {X : Cx} {b : List Stmt} {ι : Type} {t : ι → TS} (h : ∀ i, PSs X b (t i)) : PSs X b (fun D σ H => ∃ i, t i D σ H) := ⟨fun p s σ H D I q => by
  obtain ⟨i, q⟩ := q
  exact (h i).run p s σ H D I q⟩
theorem pss_and {X : Cx} {b : List Stmt} {p : Prop} {t : TS} (h : p → PSs X b t) : PSs X b (fun D σ H => p ∧ t D σ H) := ⟨fun pi s σ H D I q => (h q.1).run pi s σ H D I q.2⟩
section
variable {K : PySem.W.Frag} {mg : Str → Option Value} {en : En}
/-- the exception's dict taken over into the frozen part -/
theorem xd_frz {H G : Hp} {A F : List Addr} {S : Sto} {σ : L2.St} {ρ : Ev} {dx : Addr} {vfs : List (Str × V)} (h : SR K mg en σ ρ H G A F S) (e : H dx = some (.xd vfs)) (n : en.H dx = none) : SR K mg en σ ρ H (upd G dx (.xd vfs)) A F S := by
  have gs : Same G (upd G dx (.xd vfs)) := fun b u q => by
    by_cases hb : b = dx
    · subst hb
      rw [upd_same, ← h.rel.ext _ _ q, e]
    · rw [upd_ne hb]; exact q
  have nA : dx ∉ A := fun m => by
    obtain ⟨k, hk, hk2⟩ := List.mem_iff_getElem.mp m
    have hs : k < S.length := by rw [← h.rel.len]; exact hk
    have := h.rel.cell k dx S[k] (by rw [List.getElem?_eq_getElem hk, hk2]) (List.getElem?_eq_getElem hs)
    cases q : S[k] with
    | lst ws =>
      rw [q] at this
      obtain ⟨vs, h1, _⟩ := this
      rw [e] at h1; cases h1
    | ins c fs =>
      rw [q] at this
      obtain ⟨C, d, vf, _, h1, _⟩ := this
      rw [e] at h1; cases h1
  have ow : ∀ {ρ : Ev} {σ : L2.St} {F : List Addr}, RS K mg H G A σ ρ F → dx ∉ F := by
    have one : ∀ {v : V} {w : W} {F : List Addr}, RW K mg H G A v w F → dx ∉ F := by
      intro v w F q
      refine RW.rec (motive_1 := fun v w F _ => dx ∉ F) (motive_2 := fun v w F _ => dx ∉ F) ?_ ?_ ?_ ?_ ?_ q
      · exact fun _ m => nomatch m
      · exact fun _ m => nomatch m
      · intro a vs ws F h1 _ ih m
        rcases List.mem_cons.mp m with rfl | m
        · rw [e] at h1; cases h1
        · exact ih m
      · exact fun m => nomatch m
      · intro v vs w ws F F' _ _ i1 i2 m
        exact (List.mem_append.mp m).elim i1 i2
    intro ρ σ F q
    induction q with
    | nil => exact fun m => nomatch m
    | skip _ ih => exact ih
    | slot q _ ih => exact fun m => (List.mem_append.mp m).elim (one q) ih
  have nF := ow h.rs
  refine ⟨⟨fun b u q => ?_, h.rel.len, h.rel.nd, fun n a c h1 h2 => cell_mono (fun _ q => q) gs ⟨[], by simp⟩ (h.rel.cell n a c h1 h2), fun a m => ⟨?_, (h.rel.out a m).2⟩⟩, h.rs.frame gs ⟨[], by simp⟩ (fun _ _ _ q => q),
    ⟨h.sep.nd, fun a m => ⟨?_, (h.sep.out a m).2⟩⟩, ⟨h.ext.g.trans gs, h.ext.a, h.ext.keep, h.ext.live, fun b o g q => ?_, h.ext.newA⟩, h.young, h.low.trans gs⟩
  · by_cases hb : b = dx
    · subst hb
      rw [upd_same] at q; cases q; exact e
    · rw [upd_ne hb] at q; exact h.rel.ext _ _ q
  · rw [upd_ne (show a ≠ dx from fun z => nA (by rw [← z]; exact m))]; exact (h.rel.out a m).1
  · rw [upd_ne (show a ≠ dx from fun z => nF (by rw [← z]; exact m))]; exact (h.sep.out a m).1
  · by_cases hb : b = dx
    · subst hb; rw [n] at q; cases q
    · rw [upd_ne hb]; exact h.ext.new b o g q
theorem SR.put {σ : L2.St} {ρ : Ev} {H G : Hp} {A F : List Addr} {S : Sto} {v : V} {x : D} (h : SR K mg en σ ρ H G A F S) (q : RV K mg G v x) (i : Nat) : ∃ F', SR K mg en (σ.set i (some v)) (ρ.set i (some (.d x))) H G A F' S :=
  h.set .refl h.rel (.d q) .nil (fun _ m => nomatch m) i
theorem RS.drop {H G : Hp} {A : List Addr} {σ : L2.St} {ρ : Ev} {F : List Addr} (r : RS K mg H G A σ ρ F) : ∀ i : Nat, ∃ F', RS K mg H G A (σ.set i none) (ρ.set i none) F' ∧ F'.Sublist F := by
  induction r with
  | nil => exact fun i => ⟨[], by simpa using RS.nil, List.Sublist.refl _⟩
  | @skip o σ ρ F r ih =>
    intro i
    cases i with
    | zero => exact ⟨F, .skip r, List.Sublist.refl _⟩
    | succ i =>
      obtain ⟨F', h1, h2⟩ := ih i
      exact ⟨F', .skip h1, h2⟩
  | @slot v0 w0 σ ρ F0 F r0 r ih =>
    intro i
    cases i with
    | zero => exact ⟨F, .skip r, List.sublist_append_right _ _⟩
    | succ i =>
      obtain ⟨F', h1, h2⟩ := ih i
      exact ⟨F0 ++ F', .slot r0 h1, (List.Sublist.refl _).append h2⟩
theorem SR.drop {σ : L2.St} {ρ : Ev} {H G : Hp} {A F : List Addr} {S : Sto} (h : SR K mg en σ ρ H G A F S) (i : Nat) : ∃ F', SR K mg en (σ.set i none) (ρ.set i none) H G A F' S := by
  obtain ⟨F', h1, h2⟩ := RS.drop h.rs i
  exact ⟨F', h.rel, h1, h.sep.sub h2, h.ext, fun a m => h.young a (h2.subset m), h.low⟩
/-- the ends of a suite whose name goes -/
def unE (i : Nat) (D : Ends) : Ends := { nx := fun σ' H' => D.nx (σ'.set i none) H', rt := D.rt, bk := fun σ' H' => D.bk (σ'.set i none) H', ct := fun σ' H' => D.ct (σ'.set i none) H' }
theorem post_un {i : Nat} {D : Ends} {W1 W2 : WX} {o : SOut} (h : PostS K mg en W1 D (SOut.un i o)) (hn : ∀ e ρ S, o ≠ .ex e ρ S) : PostS K mg en W2 (unE i D) o := by
  cases o with
  | nx ρ S =>
    intro σ H G A F q
    obtain ⟨F', q'⟩ := SR.drop q i
    exact h _ H G A F' q'
  | bk ρ S =>
    intro σ H G A F q
    obtain ⟨F', q'⟩ := SR.drop q i
    exact h _ H G A F' q'
  | ct ρ S =>
    intro σ H G A F q
    obtain ⟨F', q'⟩ := SR.drop q i
    exact h _ H G A F' q'
  | rt w S => exact h
  | ex e ρ S => exact absurd rfl (hn e ρ S)
  | bad => exact h
end
/-- the suite as it runs, for the exception at a with the dict dx -/
def tsS (K : PySem.W.Frag) (mg : Str → Option Value) (en : En) (ds : Nat → Nat → Str → DS) : Addr → Value → Option Addr → TS := fun a cls d D σ H => ∃ c dx, (mg c = some cls ∧ d = some dx) ∧ tS K mg en (ds a dx c) (fun _ _ _ _ => False) D σ H
/-- what a caught exception gives -/
theorem caught {K : PySem.W.Frag} {mg : Str → Option Value} {en : En} {i n : Nat} {cv cls : Value} {d : Option Addr} {σ : L2.St} {H G : Hp} {A F : List Addr} {ρ1 : Ev} {S1 : Sto} {e : Exn} {t : Str → Option Bool} {ds : Nat → Nat → Str → DS} {res : Str → List (Str × D) → DS} {Wout : WX} {Dn : Ends}
    (hind : ∀ a dx c fs ρ S, ρ.length = n → t c = some true → ds a dx c (ρ.set i (some (.d (.exc a dx c fs)))) S = res c fs ρ S) (hnx : ∀ c fs ρ S, t c = some true → ∀ e ρ' S', res c fs ρ S ≠ .ex e ρ' S') (ht : ∀ c b cls, t c = some b → mg c = some cls → PySem.W.exmOne K cls cv = some b)
    (sr : SR K mg en σ ρ1 H G A F S1) (hl : ρ1.length = n) (rx : RX K mg en.H H G cls d e)
    (po : PostS K mg en Wout Dn (match t e.cls with
      | some true => SOut.un i (res e.cls e.fs ρ1 S1)
      | some false => .ex e ρ1 S1
      | none => .bad)) : ∃ b, PySem.W.exmOne K cls cv = some b ∧ (b = true → ∀ a, H a = none → tsS K mg en ds a cls d (unE i Dn) (σ.set i (some (.ref a))) H) ∧ (b = false → Wout cls d σ H) := by
  obtain ⟨h1, dx, vfs, h2, h3, h4, h5⟩ := rx
  cases et : t e.cls with
  | none => rw [et] at po; exact po.elim
  | some b =>
    refine ⟨b, ht _ _ _ et h1, ?_, ?_⟩
    · rintro rfl a na
      rw [et] at po
      refine ⟨e.cls, dx, ⟨h1, h2⟩, ?_⟩
      have sr2 := xd_frz sr h3 h5
      obtain ⟨F', sr3⟩ := SR.put sr2 (v := .ref a) (x := .exc a dx e.cls e.fs) (.exc upd_same (h4.mono (fun b u q => by
        by_cases hb : b = dx
        · subst hb; rw [upd_same, ← sr.rel.ext _ _ q, h3]
        · rw [upd_ne hb]; exact q))) i
      refine ⟨_, A, F', _, S1, sr3, ?_⟩
      rw [hind a dx e.cls e.fs ρ1 S1 hl et]
      exact post_un po (hnx _ _ _ _ et)
    · rintro rfl
      rw [et] at po
      exact po cls d σ H G A F sr ⟨h1, dx, vfs, h2, h3, h4, h5⟩
section
variable {X : Cx} {Wx : WX} {en : En}
theorem s_try1N {x n : Str} {cv : Value} {i : Nat} {body suite : List Stmt} {b₀ : Stmt} {np pos pos' : Pos} {db : DS} {ds : Nat → Nat → Str → DS} {res : Str → List (Str × D) → DS} {t : Str → Option Bool}
    (hs : X.stack = X.env :: X.outer) (hf : X.env.frame = some X.env.locals) (hN : X.N.Nodup) (hi : X.N[i]? = some n) (hln : X.env.kindOf n = some .local) (hc : Names X x cv) (tk : L2N.Takes X Wx)
    (hind : ∀ a dx c fs ρ S, ρ.length = X.N.length → t c = some true → ds a dx c (ρ.set i (some (.d (.exc a dx c fs)))) S = res c fs ρ S) (hnx : ∀ c fs ρ S, t c = some true → ∀ e ρ' S', res c fs ρ S ≠ .ex e ρ' S') (ht : ∀ c b cls, t c = some b → X.mg c = some cls → PySem.W.exmOne X.K cls cv = some b)
    (hlen : ∀ ρ S e ρ' S', ρ.length = X.N.length → db ρ S = .ex e ρ' S' → ρ'.length = X.N.length)
    (hb : ∀ (W : WX) (pn : List (Addr × Obj)) (xe : Value → Shared → Prop), L2N.Takes (X.tr pn xe) W → PassesOwn (model X.prog X.w) X.A X.env xe → JB (X.tr pn xe) en body db W)
    (hsu : ∀ (a : Addr) (oe : Obj) (C dx : Addr) (c : Str) (pn : List (Addr × Obj)), X.mg c = some (.ref C) → L2N.Zn (.ref C) (some dx) oe → (∃ vs, oe.data = .fields vs) → JB (X.suite a ((a, oe) :: pn)) en (b₀ :: suite) (ds a dx c) (fun _ _ _ _ => False))
    (hC : ∀ c cls, t c = some true → X.mg c = some cls → ∃ C, cls = .ref C) :
    JS X en (.Try body [.ExceptHandler (some (.Name x np)) (some n) (b₀ :: suite) pos'] [] [] pos) (dTry1 t i db res) Wx := by
  let tsT : Addr → Value → Option Addr → TS := fun a cls d D σ H => ∃ c : Str, ∃ dx : Addr, (t c = some true ∧ X.mg c = some cls ∧ d = some dx) ∧ tS X.K X.mg en (ds a dx c) (fun _ _ _ _ => False) D σ H
  refine ⟨fun pins s σ H D I h => ?_⟩
  have := (L2N.ps_try_as (X := X) (body := body) (suite := suite) (b₀ := b₀) (np := np) (pos := pos) (pos' := pos') (ts := tsT) (tb := fun W => tS X.K X.mg en db W) hs hf hN hi hln hc tk (fun W pn xe h1 h2 => hb W pn xe h1 h2) (fun a oe cls d pn hz hd => ?_)).run pins s σ H D I ?_
  · exact this
  · refine pss_ex fun c => pss_ex fun dx => pss_and fun ⟨h0, h1, h2⟩ => ?_
    obtain ⟨C, rfl⟩ := hC c cls h0 h1
    subst h2
    exact hsu a oe C dx c pn h1 hz hd
  · obtain ⟨G, A, F, ρ, S, sr, po⟩ := h
    have lr : ρ.length = X.N.length := by rw [← sr.rs.len]; exact I.len
    refine ⟨G, A, F, ρ, S, sr, ?_⟩
    unfold dTry1 at po
    cases e : db ρ S with
    | nx r S1 => rw [e] at po; exact po
    | rt w S1 => rw [e] at po; exact po
    | bk r S1 => rw [e] at po; exact po
    | ct r S1 => rw [e] at po; exact po
    | bad => rw [e] at po; exact po
    | ex x r S1 =>
      rw [e] at po
      intro c d σ1 H1 G1 A1 F1 sr1 rx
      dsimp only at po
      have hl1 := hlen ρ S x r S1 lr e
      obtain ⟨h1, dx, vfs, h2, h3, h4, h5⟩ := rx
      cases et : t x.cls with
      | none => rw [et] at po; exact po.elim
      | some b =>
        refine ⟨b, ht _ _ _ et h1, ?_, ?_⟩
        · rintro rfl a na
          rw [et] at po
          refine ⟨x.cls, dx, ⟨et, h1, h2⟩, ?_⟩
          have sr2 := xd_frz sr1 h3 h5
          obtain ⟨F', sr3⟩ := SR.put sr2 (v := .ref a) (x := .exc a dx x.cls x.fs) (.exc upd_same (h4.mono (fun b u q => by
            by_cases hb : b = dx
            · subst hb; rw [upd_same, ← sr1.rel.ext _ _ q, h3]
            · rw [upd_ne hb]; exact q))) i
          refine ⟨_, A1, F', _, S1, sr3, ?_⟩
          rw [hind a dx x.cls x.fs r S1 hl1 et]
          exact post_un po (hnx _ _ _ _ et)
        · rintro rfl
          rw [et] at po
          exact po c d σ1 H1 G1 A1 F1 sr1 ⟨h1, dx, vfs, h2, h3, h4, h5⟩
end
end DX

set_option Elab.async false
set_option linter.all false
set_option maxRecDepth 100000
set_option maxHeartbeats 4000000
/-! the exception classes of a text: what the head shows of them -/
namespace DX
open PySem L2 DL L2H
def NameV (mg : Str → Option Value) (T : Str) (cv : Value) : Prop := mg T = some cv ∨ (mg T = none ∧ bootBuiltins T = some cv ∧ T ≠ "__name__")
def subE (c T : Str) : Bool := c == T || (T == "ShareError" || T == "ArithmeticError")
abbrev ExL := List (Str × List Str)
structure XF (K : PySem.W.Frag) (mg : Str → Option Value) (xs : ExL) (fl ty : List Str) : Prop where
  ok : ∀ c fs, (c, fs) ∈ xs → ∃ C, mg c = some (.ref C) ∧ (∃ fI, ExcT K C fI fs) ∧ ExF K C ∧ (∀ f ∈ fl, PySem.W.findIn K (.ref C) f = some none) ∧
    ∀ T ∈ ty, ∃ cv v, NameV mg T cv ∧ isCls cv = some v ∧ PySem.W.kitOne K (.ref C) cv = some (subE c T) ∧ PySem.W.exmOne K (.ref C) cv = some (subE c T)
  one : ∀ T ∈ ty, ∀ u v, NameV mg T u → NameV mg T v → u = v
def valT (K : PySem.W.Frag) (T : Str) : Value := if T == "ArithmeticError" then .type "ArithmeticError" else .ref (He.ga K T)
def xfOk (K : PySem.W.Frag) (xs : ExL) (fl ty : List Str) : Bool := xs.all fun p => excB K (He.ga K p.1) (He.ma K (He.ga K p.1) "__init__") p.2 && (exfB K (He.ga K p.1) && (fl.all (fun f => He.eqO (PySem.W.findIn K (.ref (He.ga K p.1)) f) (some none)) &&
  ty.all fun T => decide (PySem.W.kitOne K (.ref (He.ga K p.1)) (valT K T) = some (subE p.1 T)) && decide (PySem.W.exmOne K (.ref (He.ga K p.1)) (valT K T) = some (subE p.1 T))))
theorem nameV_one {mg : Str → Option Value} {T : Str} {u v : Value} (a : NameV mg T u) (b : NameV mg T v) : u = v := by
  rcases a with a | ⟨a, a2, _⟩ <;> rcases b with b | ⟨b, b2, _⟩
  · exact Option.some.inj (a.symm.trans b)
  · rw [a] at b; cases b
  · rw [b] at a; cases a
  · exact Option.some.inj (a2.symm.trans b2)
theorem xf_ok {K : PySem.W.Frag} {mg : Str → Option Value} {xs : ExL} {fl ty : List Str} (h : xfOk K xs fl ty = true) (hg : ∀ p ∈ xs, mg p.1 = some (.ref (He.ga K p.1))) (ht : ∀ T ∈ ty, NameV mg T (valT K T)) : XF K mg xs fl ty := by
  refine ⟨fun c fs m => ?_, fun T _ u v => nameV_one⟩
  have h1 := List.all_eq_true.mp h (c, fs) m
  simp only [Bool.and_eq_true] at h1
  obtain ⟨h1, h2, h3, h4⟩ := h1
  refine ⟨He.ga K c, hg (c, fs) m, ⟨_, excB_ok h1⟩, exfB_ok h2, fun f mf => He.eqO_ok (List.all_eq_true.mp h3 f mf), fun T mT => ?_⟩
  have h5 := List.all_eq_true.mp h4 T mT
  simp only [Bool.and_eq_true, decide_eq_true_eq] at h5
  have hv : ∃ v, isCls (valT K T) = some v := by
    unfold valT
    split <;> exact ⟨_, rfl⟩
  obtain ⟨v, hv⟩ := hv
  exact ⟨_, v, ht T mT, hv, h5⟩
def inX (xs : ExL) (c : Str) : Bool := xs.any fun p => p.1 == c
theorem XF.at {K : PySem.W.Frag} {mg : Str → Option Value} {xs : ExL} {fl ty : List Str} (x : XF K mg xs fl ty) {c : Str} {C : Addr} (h : inX xs c = true) (hm : mg c = some (.ref C)) : ExF K C ∧ (∀ f ∈ fl, PySem.W.findIn K (.ref C) f = some none) ∧
    ∀ T ∈ ty, ∃ cv v, NameV mg T cv ∧ isCls cv = some v ∧ PySem.W.kitOne K (.ref C) cv = some (subE c T) ∧ PySem.W.exmOne K (.ref C) cv = some (subE c T) := by
  obtain ⟨p, m, e⟩ := List.any_eq_true.mp h
  obtain rfl : p.1 = c := beq_iff_eq.mp e
  obtain ⟨C', h1, _, h2, h3⟩ := x.ok p.1 p.2 m
  cases hm.symm.trans h1
  exact ⟨h2, h3⟩
section
variable {X : Cx} {a dx C : Addr} {Wx : WX} {en : En} {xs : ExL} {fl ty : List Str} {c0 : Str}
theorem e_isxT {e : Expr} {T : Str} {p p2 pos : Pos} {da : DE} (x : XF X.K X.mg xs fl ty) (hc : inX xs c0 = true) (hC : X.mg c0 = some (.ref C)) (E : ExcIn X a dx C) (ha : JE X e da Wx) (hm : X.mg "isinstance" = none) (hT : T ∈ ty := by decide) (hg : Gl X "isinstance" := by rfl) (hgT : Gl X T := by rfl) (hd : (T == ("__debug__" : Str)) = false := by decide)
    (he : starEach [e, .Name T p2] X.env = (false, eval e X.env) :: starEach [.Name T p2] X.env := by rfl) :
    JE X (.Call (.Name "isinstance" p) [e, .Name T p2] [] pos) (dIsX a dx c0 (subE c0 T) da) Wx := by
  obtain ⟨F, _, h⟩ := x.at hc hC
  obtain ⟨cv, v, h1, h2, h3, _⟩ := h T hT
  exact e_isx F E ⟨hgT, hd, h1⟩ h2 h3 ha hm hg he
theorem e_xfT {e : Expr} {f : Str} {pos : Pos} {da : DE} (x : XF X.K X.mg xs fl ty) (hc : inX xs c0 = true) (hC : X.mg c0 = some (.ref C)) (E : ExcIn X a dx C) (ha : JE X e da Wx) (hf : f ∈ fl := by decide) (hb : attributeBase e f X.env (eval e X.env) = eval e X.env := by rfl) : JE X (.Attribute e f pos) (dXf a dx c0 f da) Wx := by
  obtain ⟨F, h, _⟩ := x.at hc hC
  exact e_xf F E (h f hf) ha hb
theorem b_ite {st : List Stmt} {p : Prop} [Decidable p] {d : DS} (h : p → JB X en st d Wx) : JB X en st (if p then d else dBad) Wx := by
  by_cases hp : p
  · rw [if_pos hp]; exact h hp
  · rw [if_neg hp]; exact b_bad
end
theorem fx_bad {P : Program} {w : World} {K : PySem.W.Frag} {mg : Str → Option Value} {base : Heap} {x : Str} {st : Stmt} {f : Addr} {fd : FuncData} {ps : List Str} {k np : Nat} (Fh : Fun K x x st f fd) (hm : mg x = some (.ref f)) (bi : L2.Binds K fd ps []) : Fx P w K mg base k x np (fun _ _ => .bad) :=
  ⟨⟨f, fd, ps, hm, Fh.kp, bi, ⟨fun vs H Q E ⟨_, _, _, _, _, _, _, z⟩ => z.elim, fun A outer s H args us vs Q E _ _ _ _ ⟨_, _, _, _, _, _, _, z⟩ => z.elim⟩⟩, fun _ _ h => absurd rfl h⟩
end DX

set_option Elab.async false
set_option linter.all false
set_option maxRecDepth 100000
set_option maxHeartbeats 4000000
namespace DX
open PySem L2 DL L2H
theorem takesN {X : Cx} {Wx : WX} (t : L2.Takes X Wx) : L2N.Takes X Wx := fun u s' ⟨a, B, sI, pins, σ, H, cls, d, e, I, nb, up, sky, r⟩ => by
  refine t u s' ⟨a, B, sI, pins, σ, H, cls, d, e, I, nb, up, ?_, r⟩
  rcases sky with ⟨h1, h2, h3, oe, vs, h4, h5, h6⟩ | ⟨h1, h2, h3, oe, vs, T, oT, ts, he, hz, q⟩ | ⟨h1, h2, h3, oe, vs, T, oT, ts, he, hz, q⟩
  · exact .inl ⟨h1, h2, h3, oe, vs, h4, h5.zc, h6⟩
  · exact .inr (.inl ⟨h1, h2, h3, oe, vs, T, oT, ts, he, hz.zc, q⟩)
  · exact .inr (.inr ⟨h1, h2, h3, oe, vs, T, oT, ts, he, hz.zc, q⟩)
theorem hotS {X : Cx} {a : Addr} {oe : Obj} {pn : List (Addr × Obj)} {cls : Value} {d : Option Addr} (hz : L2N.Zn cls d oe) (hd : ∃ vs, oe.data = .fields vs) : Hot1 (X.suite a pn).A (a, oe) := by
  obtain ⟨vs, hv⟩ := hd
  exact ⟨rfl, vs, hv, hz.2.2 vs hv⟩
theorem passF {X : Cx} (σ : L2.St) : PassesAt (L2.CX X.prog X.w) X σ (WE (fun _ _ _ _ => False) σ) := fun pins H s e s' I c => by
  obtain ⟨_, _, _, _, _, _, _, _, _, _, _, _, z⟩ := c
  exact z.elim
end DX

set_option Elab.async false
set_option linter.all false
set_option maxRecDepth 100000
set_option maxHeartbeats 4000000
namespace Lw
open PySem L2 DL DX L2H
def topS (i : Nat) : Stmt := PySem.Challenge.pw_pageshares_k03_errors_and_their_fields.main.body.getD i (.Pass ⟨0, 0, 0, 0⟩)
abbrev s__law_start : Stmt := topS 16
abbrev s__law_pull : Stmt := topS 17
abbrev s__law_big : Stmt := topS 18
abbrev s__law_integer : Stmt := topS 19
abbrev s__law_is_int : Stmt := topS 14
abbrev s__law_same : Stmt := topS 15
abbrev s__law_raise : Stmt := topS 20
abbrev s__law_classes : Stmt := topS 21
abbrev s__law_fields : Stmt := topS 22
abbrev s__law_caught : Stmt := topS 23
abbrev s_law : Stmt := topS 24
def exL : ExL := [("InvalidFraction", ["name"]), ("InvalidBound", ["name"]), ("InvalidBook", ["part", "at"]), ("InvalidStanding", ["at"]), ("InvalidRow", ["at"]), ("InvalidHold", ["part"]), ("InvalidText", ["line", "word"]), ("InvalidCall", ["call"]), ("NoLimit", ["pair"]), ("NotPlain", ["found"]), ("LimitExceeded", ["limit"])]
def exF : List Str := ["at", "part", "name", "call", "word", "line", "limit", "pair", "found"]
def exT : List Str := ["ShareError", "ArithmeticError", "InvalidCall", "InvalidBound", "InvalidBook", "InvalidRow", "InvalidHold", "InvalidFraction", "LimitExceeded", "InvalidText", "InvalidStanding", "NotPlain", "NoLimit"]
def clsS : Stmt → List Stmt
  | .ClassDef _ _ _ b _ _ _ _ _ _ _ => b
  | _ => []
abbrev i_InvalidBook : Stmt := (clsS (topS 4)).getD 0 (.Pass ⟨0, 0, 0, 0⟩)
abbrev i_InvalidBound : Stmt := (clsS (topS 3)).getD 0 (.Pass ⟨0, 0, 0, 0⟩)
abbrev i_InvalidCall : Stmt := (clsS (topS 9)).getD 0 (.Pass ⟨0, 0, 0, 0⟩)
abbrev i_InvalidFraction : Stmt := (clsS (topS 2)).getD 0 (.Pass ⟨0, 0, 0, 0⟩)
abbrev i_InvalidHold : Stmt := (clsS (topS 7)).getD 0 (.Pass ⟨0, 0, 0, 0⟩)
abbrev i_InvalidRow : Stmt := (clsS (topS 6)).getD 0 (.Pass ⟨0, 0, 0, 0⟩)
abbrev i_InvalidStanding : Stmt := (clsS (topS 5)).getD 0 (.Pass ⟨0, 0, 0, 0⟩)
abbrev i_InvalidText : Stmt := (clsS (topS 8)).getD 0 (.Pass ⟨0, 0, 0, 0⟩)
abbrev i_LimitExceeded : Stmt := (clsS (topS 12)).getD 0 (.Pass ⟨0, 0, 0, 0⟩)
abbrev i_NoLimit : Stmt := (clsS (topS 10)).getD 0 (.Pass ⟨0, 0, 0, 0⟩)
abbrev i_NotPlain : Stmt := (clsS (topS 11)).getD 0 (.Pass ⟨0, 0, 0, 0⟩)
structure Tx (K : PySem.W.Frag) (mg : Str → Option Value) : Prop where
  f__law_start : ∃ f fd, Fun K "_law_start" "_law_start" s__law_start f fd ∧ mg "_law_start" = some (.ref f)
  f__law_pull : ∃ f fd, Fun K "_law_pull" "_law_pull" s__law_pull f fd ∧ mg "_law_pull" = some (.ref f)
  f__law_big : ∃ f fd, Fun K "_law_big" "_law_big" s__law_big f fd ∧ mg "_law_big" = some (.ref f)
  f__law_integer : ∃ f fd, Fun K "_law_integer" "_law_integer" s__law_integer f fd ∧ mg "_law_integer" = some (.ref f)
  f__law_is_int : ∃ f fd, Fun K "_law_is_int" "_law_is_int" s__law_is_int f fd ∧ mg "_law_is_int" = some (.ref f)
  f__law_same : ∃ f fd, Fun K "_law_same" "_law_same" s__law_same f fd ∧ mg "_law_same" = some (.ref f)
  f__law_raise : ∃ f fd, Fun K "_law_raise" "_law_raise" s__law_raise f fd ∧ mg "_law_raise" = some (.ref f)
  f__law_classes : ∃ f fd, Fun K "_law_classes" "_law_classes" s__law_classes f fd ∧ mg "_law_classes" = some (.ref f)
  f__law_fields : ∃ f fd, Fun K "_law_fields" "_law_fields" s__law_fields f fd ∧ mg "_law_fields" = some (.ref f)
  f__law_caught : ∃ f fd, Fun K "_law_caught" "_law_caught" s__law_caught f fd ∧ mg "_law_caught" = some (.ref f)
  f_law : ∃ f fd, Fun K "law" "law" s_law f fd ∧ mg "law" = some (.ref f)
  b_bool : mg "bool" = none
  b_int : mg "int" = none
  b_isinstance : mg "isinstance" = none
  b_len : mg "len" = none
  b_list : mg "list" = none
  b_range : mg "range" = none
  b_str : mg "str" = none
  b_tuple : mg "tuple" = none
  xf : XF K mg exL exF exT
  i_InvalidBook : ∃ f fd, Fun K "__init__" "InvalidBook.__init__" i_InvalidBook f fd ∧ mg "InvalidBook" = some (.ref (He.ga K "InvalidBook")) ∧ f = He.ma K (He.ga K "InvalidBook") "__init__"
  i_InvalidBound : ∃ f fd, Fun K "__init__" "InvalidBound.__init__" i_InvalidBound f fd ∧ mg "InvalidBound" = some (.ref (He.ga K "InvalidBound")) ∧ f = He.ma K (He.ga K "InvalidBound") "__init__"
  i_InvalidCall : ∃ f fd, Fun K "__init__" "InvalidCall.__init__" i_InvalidCall f fd ∧ mg "InvalidCall" = some (.ref (He.ga K "InvalidCall")) ∧ f = He.ma K (He.ga K "InvalidCall") "__init__"
  i_InvalidFraction : ∃ f fd, Fun K "__init__" "InvalidFraction.__init__" i_InvalidFraction f fd ∧ mg "InvalidFraction" = some (.ref (He.ga K "InvalidFraction")) ∧ f = He.ma K (He.ga K "InvalidFraction") "__init__"
  i_InvalidHold : ∃ f fd, Fun K "__init__" "InvalidHold.__init__" i_InvalidHold f fd ∧ mg "InvalidHold" = some (.ref (He.ga K "InvalidHold")) ∧ f = He.ma K (He.ga K "InvalidHold") "__init__"
  i_InvalidRow : ∃ f fd, Fun K "__init__" "InvalidRow.__init__" i_InvalidRow f fd ∧ mg "InvalidRow" = some (.ref (He.ga K "InvalidRow")) ∧ f = He.ma K (He.ga K "InvalidRow") "__init__"
  i_InvalidStanding : ∃ f fd, Fun K "__init__" "InvalidStanding.__init__" i_InvalidStanding f fd ∧ mg "InvalidStanding" = some (.ref (He.ga K "InvalidStanding")) ∧ f = He.ma K (He.ga K "InvalidStanding") "__init__"
  i_InvalidText : ∃ f fd, Fun K "__init__" "InvalidText.__init__" i_InvalidText f fd ∧ mg "InvalidText" = some (.ref (He.ga K "InvalidText")) ∧ f = He.ma K (He.ga K "InvalidText") "__init__"
  i_LimitExceeded : ∃ f fd, Fun K "__init__" "LimitExceeded.__init__" i_LimitExceeded f fd ∧ mg "LimitExceeded" = some (.ref (He.ga K "LimitExceeded")) ∧ f = He.ma K (He.ga K "LimitExceeded") "__init__"
  i_NoLimit : ∃ f fd, Fun K "__init__" "NoLimit.__init__" i_NoLimit f fd ∧ mg "NoLimit" = some (.ref (He.ga K "NoLimit")) ∧ f = He.ma K (He.ga K "NoLimit") "__init__"
  i_NotPlain : ∃ f fd, Fun K "__init__" "NotPlain.__init__" i_NotPlain f fd ∧ mg "NotPlain" = some (.ref (He.ga K "NotPlain")) ∧ f = He.ma K (He.ga K "NotPlain") "__init__"
section
variable {P : Program} {w : World} {K : PySem.W.Frag} {mg : Str → Option Value} {base : Heap}
theorem isc_InvalidBook : FnScope ["self", "part", "at"] ["self", "part", "at"] (defScope i_InvalidBook) := ⟨rfl, rfl, rfl, by decide +kernel, rfl, by decide +kernel, by decide +kernel⟩
theorem xc_InvalidBook (T : Tx K mg) : Xc P w K mg base "InvalidBook" ["part", "at"] := by
  obtain ⟨f, fd, Fh, hm, hf⟩ := T.i_InvalidBook
  subst hf
  obtain ⟨C, hC, ⟨fI, hT⟩, hF, _⟩ := T.xf.ok "InvalidBook" ["part", "at"] (by decide)
  cases hm.symm.trans hC
  have hI : fI = He.ma K (He.ga K "InvalidBook") "__init__" := by unfold He.ma; rw [hT.iC]
  subst hI
  exact ⟨_, _, fd, ["self", "part", "at"], hm, hT, hF, Fh.binds (ps := ["self", "part", "at"]) fun _ _ _ _ _ _ us hl => match us, hl with | [_, _, _], _ => rfl, fun CX => init2 Fh isc_InvalidBook hT rfl⟩
theorem isc_InvalidBound : FnScope ["self", "name"] ["self", "name"] (defScope i_InvalidBound) := ⟨rfl, rfl, rfl, by decide +kernel, rfl, by decide +kernel, by decide +kernel⟩
theorem xc_InvalidBound (T : Tx K mg) : Xc P w K mg base "InvalidBound" ["name"] := by
  obtain ⟨f, fd, Fh, hm, hf⟩ := T.i_InvalidBound
  subst hf
  obtain ⟨C, hC, ⟨fI, hT⟩, hF, _⟩ := T.xf.ok "InvalidBound" ["name"] (by decide)
  cases hm.symm.trans hC
  have hI : fI = He.ma K (He.ga K "InvalidBound") "__init__" := by unfold He.ma; rw [hT.iC]
  subst hI
  exact ⟨_, _, fd, ["self", "name"], hm, hT, hF, Fh.binds (ps := ["self", "name"]) fun _ _ _ _ _ _ us hl => match us, hl with | [_, _], _ => rfl, fun CX => init1 Fh isc_InvalidBound hT rfl⟩
theorem isc_InvalidCall : FnScope ["self", "call"] ["self", "call"] (defScope i_InvalidCall) := ⟨rfl, rfl, rfl, by decide +kernel, rfl, by decide +kernel, by decide +kernel⟩
theorem xc_InvalidCall (T : Tx K mg) : Xc P w K mg base "InvalidCall" ["call"] := by
  obtain ⟨f, fd, Fh, hm, hf⟩ := T.i_InvalidCall
  subst hf
  obtain ⟨C, hC, ⟨fI, hT⟩, hF, _⟩ := T.xf.ok "InvalidCall" ["call"] (by decide)
  cases hm.symm.trans hC
  have hI : fI = He.ma K (He.ga K "InvalidCall") "__init__" := by unfold He.ma; rw [hT.iC]
  subst hI
  exact ⟨_, _, fd, ["self", "call"], hm, hT, hF, Fh.binds (ps := ["self", "call"]) fun _ _ _ _ _ _ us hl => match us, hl with | [_, _], _ => rfl, fun CX => init1 Fh isc_InvalidCall hT rfl⟩
theorem isc_InvalidFraction : FnScope ["self", "name"] ["self", "name"] (defScope i_InvalidFraction) := ⟨rfl, rfl, rfl, by decide +kernel, rfl, by decide +kernel, by decide +kernel⟩
theorem xc_InvalidFraction (T : Tx K mg) : Xc P w K mg base "InvalidFraction" ["name"] := by
  obtain ⟨f, fd, Fh, hm, hf⟩ := T.i_InvalidFraction
  subst hf
  obtain ⟨C, hC, ⟨fI, hT⟩, hF, _⟩ := T.xf.ok "InvalidFraction" ["name"] (by decide)
  cases hm.symm.trans hC
  have hI : fI = He.ma K (He.ga K "InvalidFraction") "__init__" := by unfold He.ma; rw [hT.iC]
  subst hI
  exact ⟨_, _, fd, ["self", "name"], hm, hT, hF, Fh.binds (ps := ["self", "name"]) fun _ _ _ _ _ _ us hl => match us, hl with | [_, _], _ => rfl, fun CX => init1 Fh isc_InvalidFraction hT rfl⟩
theorem isc_InvalidHold : FnScope ["self", "part"] ["self", "part"] (defScope i_InvalidHold) := ⟨rfl, rfl, rfl, by decide +kernel, rfl, by decide +kernel, by decide +kernel⟩
theorem xc_InvalidHold (T : Tx K mg) : Xc P w K mg base "InvalidHold" ["part"] := by
  obtain ⟨f, fd, Fh, hm, hf⟩ := T.i_InvalidHold
  subst hf
  obtain ⟨C, hC, ⟨fI, hT⟩, hF, _⟩ := T.xf.ok "InvalidHold" ["part"] (by decide)
  cases hm.symm.trans hC
  have hI : fI = He.ma K (He.ga K "InvalidHold") "__init__" := by unfold He.ma; rw [hT.iC]
  subst hI
  exact ⟨_, _, fd, ["self", "part"], hm, hT, hF, Fh.binds (ps := ["self", "part"]) fun _ _ _ _ _ _ us hl => match us, hl with | [_, _], _ => rfl, fun CX => init1 Fh isc_InvalidHold hT rfl⟩
theorem isc_InvalidRow : FnScope ["self", "at"] ["self", "at"] (defScope i_InvalidRow) := ⟨rfl, rfl, rfl, by decide +kernel, rfl, by decide +kernel, by decide +kernel⟩
theorem xc_InvalidRow (T : Tx K mg) : Xc P w K mg base "InvalidRow" ["at"] := by
  obtain ⟨f, fd, Fh, hm, hf⟩ := T.i_InvalidRow
  subst hf
  obtain ⟨C, hC, ⟨fI, hT⟩, hF, _⟩ := T.xf.ok "InvalidRow" ["at"] (by decide)
  cases hm.symm.trans hC
  have hI : fI = He.ma K (He.ga K "InvalidRow") "__init__" := by unfold He.ma; rw [hT.iC]
  subst hI
  exact ⟨_, _, fd, ["self", "at"], hm, hT, hF, Fh.binds (ps := ["self", "at"]) fun _ _ _ _ _ _ us hl => match us, hl with | [_, _], _ => rfl, fun CX => init1 Fh isc_InvalidRow hT rfl⟩
theorem isc_InvalidStanding : FnScope ["self", "at"] ["self", "at"] (defScope i_InvalidStanding) := ⟨rfl, rfl, rfl, by decide +kernel, rfl, by decide +kernel, by decide +kernel⟩
theorem xc_InvalidStanding (T : Tx K mg) : Xc P w K mg base "InvalidStanding" ["at"] := by
  obtain ⟨f, fd, Fh, hm, hf⟩ := T.i_InvalidStanding
  subst hf
  obtain ⟨C, hC, ⟨fI, hT⟩, hF, _⟩ := T.xf.ok "InvalidStanding" ["at"] (by decide)
  cases hm.symm.trans hC
  have hI : fI = He.ma K (He.ga K "InvalidStanding") "__init__" := by unfold He.ma; rw [hT.iC]
  subst hI
  exact ⟨_, _, fd, ["self", "at"], hm, hT, hF, Fh.binds (ps := ["self", "at"]) fun _ _ _ _ _ _ us hl => match us, hl with | [_, _], _ => rfl, fun CX => init1 Fh isc_InvalidStanding hT rfl⟩
theorem isc_InvalidText : FnScope ["self", "line", "word"] ["self", "line", "word"] (defScope i_InvalidText) := ⟨rfl, rfl, rfl, by decide +kernel, rfl, by decide +kernel, by decide +kernel⟩
theorem xc_InvalidText (T : Tx K mg) : Xc P w K mg base "InvalidText" ["line", "word"] := by
  obtain ⟨f, fd, Fh, hm, hf⟩ := T.i_InvalidText
  subst hf
  obtain ⟨C, hC, ⟨fI, hT⟩, hF, _⟩ := T.xf.ok "InvalidText" ["line", "word"] (by decide)
  cases hm.symm.trans hC
  have hI : fI = He.ma K (He.ga K "InvalidText") "__init__" := by unfold He.ma; rw [hT.iC]
  subst hI
  exact ⟨_, _, fd, ["self", "line", "word"], hm, hT, hF, Fh.binds (ps := ["self", "line", "word"]) fun _ _ _ _ _ _ us hl => match us, hl with | [_, _, _], _ => rfl, fun CX => init2 Fh isc_InvalidText hT rfl⟩
theorem isc_LimitExceeded : FnScope ["self", "limit"] ["self", "limit"] (defScope i_LimitExceeded) := ⟨rfl, rfl, rfl, by decide +kernel, rfl, by decide +kernel, by decide +kernel⟩
theorem xc_LimitExceeded (T : Tx K mg) : Xc P w K mg base "LimitExceeded" ["limit"] := by
  obtain ⟨f, fd, Fh, hm, hf⟩ := T.i_LimitExceeded
  subst hf
  obtain ⟨C, hC, ⟨fI, hT⟩, hF, _⟩ := T.xf.ok "LimitExceeded" ["limit"] (by decide)
  cases hm.symm.trans hC
  have hI : fI = He.ma K (He.ga K "LimitExceeded") "__init__" := by unfold He.ma; rw [hT.iC]
  subst hI
  exact ⟨_, _, fd, ["self", "limit"], hm, hT, hF, Fh.binds (ps := ["self", "limit"]) fun _ _ _ _ _ _ us hl => match us, hl with | [_, _], _ => rfl, fun CX => init1 Fh isc_LimitExceeded hT rfl⟩
theorem isc_NoLimit : FnScope ["self", "pair"] ["self", "pair"] (defScope i_NoLimit) := ⟨rfl, rfl, rfl, by decide +kernel, rfl, by decide +kernel, by decide +kernel⟩
theorem xc_NoLimit (T : Tx K mg) : Xc P w K mg base "NoLimit" ["pair"] := by
  obtain ⟨f, fd, Fh, hm, hf⟩ := T.i_NoLimit
  subst hf
  obtain ⟨C, hC, ⟨fI, hT⟩, hF, _⟩ := T.xf.ok "NoLimit" ["pair"] (by decide)
  cases hm.symm.trans hC
  have hI : fI = He.ma K (He.ga K "NoLimit") "__init__" := by unfold He.ma; rw [hT.iC]
  subst hI
  exact ⟨_, _, fd, ["self", "pair"], hm, hT, hF, Fh.binds (ps := ["self", "pair"]) fun _ _ _ _ _ _ us hl => match us, hl with | [_, _], _ => rfl, fun CX => init1 Fh isc_NoLimit hT rfl⟩
theorem isc_NotPlain : FnScope ["self", "found"] ["self", "found"] (defScope i_NotPlain) := ⟨rfl, rfl, rfl, by decide +kernel, rfl, by decide +kernel, by decide +kernel⟩
theorem xc_NotPlain (T : Tx K mg) : Xc P w K mg base "NotPlain" ["found"] := by
  obtain ⟨f, fd, Fh, hm, hf⟩ := T.i_NotPlain
  subst hf
  obtain ⟨C, hC, ⟨fI, hT⟩, hF, _⟩ := T.xf.ok "NotPlain" ["found"] (by decide)
  cases hm.symm.trans hC
  have hI : fI = He.ma K (He.ga K "NotPlain") "__init__" := by unfold He.ma; rw [hT.iC]
  subst hI
  exact ⟨_, _, fd, ["self", "found"], hm, hT, hF, Fh.binds (ps := ["self", "found"]) fun _ _ _ _ _ _ us hl => match us, hl with | [_, _], _ => rfl, fun CX => init1 Fh isc_NotPlain hT rfl⟩
def d__law_start : DF := dFn 1 1 ((dRet (dLstO (dCons (dBt fList (dCons (dVar 0) dNil)) (dCons (dC (.int 0)) (dCons (dC (.int 0)) (dCons (dC (.int 1234577)) dNil)))))))
theorem sc__law_start : FnScope ["_law_script"] ["_law_script"] (defScope s__law_start) := ⟨rfl, rfl, rfl, by decide +kernel, rfl, by decide +kernel, by decide +kernel⟩
theorem x__law_start (T : Tx K mg) : Fx P w K mg base 1 "_law_start" 1 d__law_start := by
  obtain ⟨f, fd, Fh, hm⟩ := T.f__law_start
  refine fx_ok Fh sc__law_start rfl rfl hm (Fh.binds (ps := ["_law_script"]) fun _ _ _ _ _ _ us hl => match us, hl with | [_], _ => rfl) fun cdv A outer s H E en hr tk => ?_
  exact (b_one (s_ret (e_lstO (a_cons (e_ty call_list_of cd_list T.b_list (by decide +kernel) (a_cons (e_var (i := 0)) a_nil)) (a_cons (e_const pe_int fun _ => .int _) (a_cons (e_const pe_int fun _ => .int _) (a_cons (e_const pe_int fun _ => .int _) a_nil)))))))
def d__law_pull : DF := dFn 2 4 ((dSeq (dIfS (dAnd (dTst (dOp fEq (dIx (dVar 0) (dC (.int 2))) (dC (.int 0)))) (dTst (dOp fLt (dIx (dVar 0) (dC (.int 1))) (dBt fLen (dCons (dIx (dVar 0) (dC (.int 0))) dNil))))) (dSeq (dAsg 2 (dIx (dIx (dVar 0) (dC (.int 0))) (dIx (dVar 0) (dC (.int 1))))) (dSeq (dSetI 0 (dC (.int 1)) (dOp fAdd (dIx (dVar 0) (dC (.int 1))) (dC (.int 1)))) (dIfS (dTst (dOp fGe (dVar 2) (dOp fPow (dC (.int 10)) (dC (.int 18))))) (dSetI 0 (dC (.int 2)) (dVar 2)) (dSetI 0 (dC (.int 3)) (dOp fMod (dBt fInt (dCons (dOp fAdd (dOp fAdd (dOp fMul (dIx (dVar 0) (dC (.int 3))) (dC (.int 48271))) (dOp fMod (dBt fInt (dCons (dVar 2) dNil)) (dC (.int 2147483629)))) (dC (.int 1))) dNil)) (dC (.int 2147483647))))))) dSkip) (dSeq (dIfS (dTst (dOp fGt (dIx (dVar 0) (dC (.int 2))) (dC (.int 0)))) (dSeq (dAsg 3 (dOp fMod (dBt fInt (dCons (dIx (dVar 0) (dC (.int 2))) dNil)) (dVar 1))) (dSeq (dSetI 0 (dC (.int 2)) (dOp fDiv (dIx (dVar 0) (dC (.int 2))) (dVar 1))) (dRet (dVar 3)))) dSkip) (dSeq (dSetI 0 (dC (.int 3)) (dOp fMod (dBt fInt (dCons (dOp fAdd (dOp fMul (dIx (dVar 0) (dC (.int 3))) (dC (.int 69621))) (dC (.int 11))) dNil)) (dC (.int 2147483647)))) (dSeq (dAsg 3 (dOp fMod (dBt fInt (dCons (dOp fAdd (dOp fMul (dIx (dVar 0) (dC (.int 3))) (dC (.int 40692))) (dOp fDiv (dIx (dVar 0) (dC (.int 3))) (dC (.int 1009)))) dNil)) (dC (.int 2147483399)))) (dRet (dOp fMod (dBt fInt (dCons (dOp fDiv (dVar 3) (dC (.int 16))) dNil)) (dVar 1))))))))
theorem sc__law_pull : FnScope ["_law_state", "_law_many", "_law_cell", "_law_number"] ["_law_state", "_law_many"] (defScope s__law_pull) := ⟨rfl, rfl, rfl, by decide +kernel, rfl, by decide +kernel, by decide +kernel⟩
theorem x__law_pull (T : Tx K mg) : Fx P w K mg base 1 "_law_pull" 2 d__law_pull := by
  obtain ⟨f, fd, Fh, hm⟩ := T.f__law_pull
  refine fx_ok Fh sc__law_pull rfl rfl hm (Fh.binds (ps := ["_law_state", "_law_many"]) fun _ _ _ _ _ _ us hl => match us, hl with | [_, _], _ => rfl) fun cdv A outer s H E en hr tk => ?_
  exact (b_cons (s_if (t_w (w_and (t_cmp (op_eqD hr.units) od_eq (e_ix (e_var (i := 0)) (e_const pe_int fun _ => .int _)) (e_const pe_int fun _ => .int _)) (w_and1 (t_cmp op_lt od_lt (e_ix (e_var (i := 0)) (e_const pe_int fun _ => .int _)) (e_bt call_len cd_len T.b_len (by decide +kernel) (a_cons (e_ix (e_var (i := 0)) (e_const pe_int fun _ => .int _)) a_nil)))))) (b_cons (s_set (i := 2) sc__law_pull.nd (e_ix (e_ix (e_var (i := 0)) (e_const pe_int fun _ => .int _)) (e_ix (e_var (i := 0)) (e_const pe_int fun _ => .int _)))) (b_cons (s_setI (i := 0) (e_op op_addA od_add (e_ix (e_var (i := 0)) (e_const pe_int fun _ => .int _)) (e_const pe_int fun _ => .int _)) (e_const pe_int fun _ => .int _)) (b_one (s_if (t_cmp op_ge od_ge (e_var (i := 2)) (e_op op_pow od_pow (e_const pe_int fun _ => .int _) (e_const pe_int fun _ => .int _))) (b_one (s_setI (i := 0) (e_var (i := 2)) (e_const pe_int fun _ => .int _))) (b_one (s_setI (i := 0) (e_op op_modN od_mod (e_ty call_int1 cd_int T.b_int (by decide +kernel) (a_cons (e_op op_addA od_add (e_op op_addA od_add (e_op op_mulA od_mul (e_ix (e_var (i := 0)) (e_const pe_int fun _ => .int _)) (e_const pe_int fun _ => .int _)) (e_op op_modN od_mod (e_ty call_int1 cd_int T.b_int (by decide +kernel) (a_cons (e_var (i := 2)) a_nil)) (e_const pe_int fun _ => .int _))) (e_const pe_int fun _ => .int _)) a_nil)) (e_const pe_int fun _ => .int _)) (e_const pe_int fun _ => .int _))))))) b_nil) (b_cons (s_if (t_cmp op_gt od_gt (e_ix (e_var (i := 0)) (e_const pe_int fun _ => .int _)) (e_const pe_int fun _ => .int _)) (b_cons (s_set (i := 3) sc__law_pull.nd (e_op op_modN od_mod (e_ty call_int1 cd_int T.b_int (by decide +kernel) (a_cons (e_ix (e_var (i := 0)) (e_const pe_int fun _ => .int _)) a_nil)) (e_var (i := 1)))) (b_cons (s_setI (i := 0) (e_op op_divA od_div (e_ix (e_var (i := 0)) (e_const pe_int fun _ => .int _)) (e_var (i := 1))) (e_const pe_int fun _ => .int _)) (b_one (s_ret (e_var (i := 3)))))) b_nil) (b_cons (s_setI (i := 0) (e_op op_modN od_mod (e_ty call_int1 cd_int T.b_int (by decide +kernel) (a_cons (e_op op_addA od_add (e_op op_mulA od_mul (e_ix (e_var (i := 0)) (e_const pe_int fun _ => .int _)) (e_const pe_int fun _ => .int _)) (e_const pe_int fun _ => .int _)) a_nil)) (e_const pe_int fun _ => .int _)) (e_const pe_int fun _ => .int _)) (b_cons (s_set (i := 3) sc__law_pull.nd (e_op op_modN od_mod (e_ty call_int1 cd_int T.b_int (by decide +kernel) (a_cons (e_op op_addA od_add (e_op op_mulA od_mul (e_ix (e_var (i := 0)) (e_const pe_int fun _ => .int _)) (e_const pe_int fun _ => .int _)) (e_op op_divA od_div (e_ix (e_var (i := 0)) (e_const pe_int fun _ => .int _)) (e_const pe_int fun _ => .int _))) a_nil)) (e_const pe_int fun _ => .int _))) (b_one (s_ret (e_op op_modN od_mod (e_ty call_int1 cd_int T.b_int (by decide +kernel) (a_cons (e_op op_divA od_div (e_var (i := 3)) (e_const pe_int fun _ => .int _)) a_nil)) (e_var (i := 1)))))))))
def d__law_big : DF := dFn 2 4 ((dSeq (dAsg 2 (dC (.int 0))) (dSeq (dKill [3]) (dSeq (dFor (gNm 3) (iRg1 (dCons (dC (.int 6)) dNil)) (dSeq (dAsg 2 (dOp fAdd (dOp fMul (dVar 2) (dC (.int 100000007))) (dCall d__law_pull (dCons (dVar 0) (dCons (dC (.int 100000007)) dNil))))) (dSeq (dKill [3]) dSkip))) (dRet (dOp fMod (dBt fInt (dCons (dVar 2) dNil)) (dVar 1)))))))
theorem sc__law_big : FnScope ["_law_state", "_law_many", "_law_number", "_law_k"] ["_law_state", "_law_many"] (defScope s__law_big) := ⟨rfl, rfl, rfl, by decide +kernel, rfl, by decide +kernel, by decide +kernel⟩
theorem x__law_big (T : Tx K mg) : Fx P w K mg base 2 "_law_big" 2 d__law_big := by
  obtain ⟨f, fd, Fh, hm⟩ := T.f__law_big
  refine fx_ok Fh sc__law_big rfl rfl hm (Fh.binds (ps := ["_law_state", "_law_many"]) fun _ _ _ _ _ _ us hl => match us, hl with | [_, _], _ => rfl) fun cdv A outer s H E en hr tk => ?_
  exact (b_cons (s_set (i := 2) sc__law_big.nd (e_const pe_int fun _ => .int _)) (b_kill (b_cons (s_for (passes_of rfl) rfl (i_rng1 T.b_range (a_cons (e_const pe_int fun _ => .int _) a_nil)) (pg_name (i := 3) sc__law_big.nd rfl (by first | exact Or.inl rfl | exact Or.inr rfl)) (gok_name 3) fun L => (b_cons (s_set (i := 2) sc__law_big.nd (e_op op_addA od_add (e_op op_mulA od_mul (e_var (i := 2)) (e_const pe_int fun _ => .int _)) (e_call (x__law_pull T) (hr.mono (by decide)) tk (a_cons (e_var (i := 0)) (a_cons (e_const pe_int fun _ => .int _) a_nil))))) (b_kill b_nil))) (b_one (s_ret (e_op op_modN od_mod (e_ty call_int1 cd_int T.b_int (by decide +kernel) (a_cons (e_var (i := 2)) a_nil)) (e_var (i := 1))))))))
def d__law_integer : DF := dFn 1 1 ((dSeq (dIfS (dTst (dOp fEq (dCall d__law_pull (dCons (dVar 0) (dCons (dC (.int 2)) dNil))) (dC (.int 0)))) (dRet (dOp fSub (dCall d__law_pull (dCons (dVar 0) (dCons (dC (.int 41)) dNil))) (dC (.int 20)))) dSkip) (dRet (dOp fAdd (dOp fSub (dCall d__law_big (dCons (dVar 0) (dCons (dOp fSub (dOp fMul (dC (.int 2)) (dOp fPow (dC (.int 10)) (dC (.int 40)))) (dC (.int 1))) dNil))) (dOp fPow (dC (.int 10)) (dC (.int 40)))) (dC (.int 1))))))
theorem sc__law_integer : FnScope ["_law_state"] ["_law_state"] (defScope s__law_integer) := ⟨rfl, rfl, rfl, by decide +kernel, rfl, by decide +kernel, by decide +kernel⟩
theorem x__law_integer (T : Tx K mg) : Fx P w K mg base 3 "_law_integer" 1 d__law_integer := by
  obtain ⟨f, fd, Fh, hm⟩ := T.f__law_integer
  refine fx_ok Fh sc__law_integer rfl rfl hm (Fh.binds (ps := ["_law_state"]) fun _ _ _ _ _ _ us hl => match us, hl with | [_], _ => rfl) fun cdv A outer s H E en hr tk => ?_
  exact (b_cons (s_if (t_cmp (op_eqD hr.units) od_eq (e_call (x__law_pull T) (hr.mono (by decide)) tk (a_cons (e_var (i := 0)) (a_cons (e_const pe_int fun _ => .int _) a_nil))) (e_const pe_int fun _ => .int _)) (b_one (s_ret (e_op op_sub od_sub (e_call (x__law_pull T) (hr.mono (by decide)) tk (a_cons (e_var (i := 0)) (a_cons (e_const pe_int fun _ => .int _) a_nil))) (e_const pe_int fun _ => .int _)))) b_nil) (b_one (s_ret (e_op op_addA od_add (e_op op_sub od_sub (e_call (x__law_big T) (hr.mono (by decide)) tk (a_cons (e_var (i := 0)) (a_cons (e_op op_sub od_sub (e_op op_mulA od_mul (e_const pe_int fun _ => .int _) (e_op op_pow od_pow (e_const pe_int fun _ => .int _) (e_const pe_int fun _ => .int _))) (e_const pe_int fun _ => .int _)) a_nil))) (e_op op_pow od_pow (e_const pe_int fun _ => .int _) (e_const pe_int fun _ => .int _))) (e_const pe_int fun _ => .int _)))))
def d__law_is_int : DF := dFn 1 1 ((dRet (dAndV (dIsi "int" (dVar 0)) (dNotV (dIsi "bool" (dVar 0))))))
theorem sc__law_is_int : FnScope ["_law_told"] ["_law_told"] (defScope s__law_is_int) := ⟨rfl, rfl, rfl, by decide +kernel, rfl, by decide +kernel, by decide +kernel⟩
theorem x__law_is_int (T : Tx K mg) : Fx P w K mg base 1 "_law_is_int" 1 d__law_is_int := by
  obtain ⟨f, fd, Fh, hm⟩ := T.f__law_is_int
  refine fx_ok Fh sc__law_is_int rfl rfl hm (Fh.binds (ps := ["_law_told"]) fun _ _ _ _ _ _ us hl => match us, hl with | [_], _ => rfl) fun cdv A outer s H E en hr tk => ?_
  exact (b_one (s_ret (e_and (e_isi T.b_isinstance T.b_int (by decide +kernel) (e_var (i := 0))) (e_one (e_not (e_isi T.b_isinstance T.b_bool (by decide +kernel) (e_var (i := 0))))))))
def d__law_same : Nat → DF
  | 0 => fun _ _ => .bad
  | m + 1 => dFn 2 3 ((dSeq (dIfS (dTst (dOp fIsN (dVar 1) (dC .non))) (dRet (dOp fIsN (dVar 0) (dC .non))) dSkip) (dSeq (dIfS (dTst (dIsi "bool" (dVar 1))) (dRet (dAndV (dIsi "bool" (dVar 0)) (dOp fEq (dVar 0) (dVar 1)))) dSkip) (dSeq (dIfS (dTst (dIsi "int" (dVar 1))) (dRet (dAndV (dCall d__law_is_int (dCons (dVar 0) dNil)) (dOp fEq (dVar 0) (dVar 1)))) dSkip) (dSeq (dIfS (dTst (dIsi "str" (dVar 1))) (dRet (dAndV (dIsi "str" (dVar 0)) (dOp fEq (dVar 0) (dVar 1)))) dSkip) (dSeq (dIfS (dAnd (dTst (dIsi "list" (dVar 1))) (dNot (dTst (dIsi "list" (dVar 0))))) (dRet (dC (.bl false))) dSkip) (dSeq (dIfS (dAnd (dTst (dIsi "tuple" (dVar 1))) (dNot (dTst (dIsi "tuple" (dVar 0))))) (dRet (dC (.bl false))) dSkip) (dSeq (dIfS (dTst (dOp fNe (dBt fLen (dCons (dVar 0) dNil)) (dBt fLen (dCons (dVar 1) dNil)))) (dRet (dC (.bl false))) dSkip) (dSeq (dKill [2]) (dSeq (dFor (gNm 2) (iRg1 (dCons (dBt fLen (dCons (dVar 1) dNil)) dNil)) (dSeq (dIfS (dNot (dTst (dCall (d__law_same m) (dCons (dIx (dVar 0) (dVar 2)) (dCons (dIx (dVar 1) (dVar 2)) dNil))))) (dRet (dC (.bl false))) dSkip) (dSeq (dKill [2]) dSkip))) (dRet (dC (.bl true)))))))))))))
theorem sc__law_same : FnScope ["_law_told", "_law_due", "_law_k"] ["_law_told", "_law_due"] (defScope s__law_same) := ⟨rfl, rfl, rfl, by decide +kernel, rfl, by decide +kernel, by decide +kernel⟩
theorem x__law_same (T : Tx K mg) : ∀ m, Fx P w K mg base (2 + m) "_law_same" 2 (d__law_same m) := by
  obtain ⟨f, fd, Fh, hm⟩ := T.f__law_same
  intro m
  induction m with
  | zero => exact fx_bad Fh hm (Fh.binds (ps := ["_law_told", "_law_due"]) fun _ _ _ _ _ _ us hl => match us, hl with | [_, _], _ => rfl)
  | succ m ih =>
  refine fx_ok (k := 2 + m) Fh sc__law_same rfl rfl hm (Fh.binds (ps := ["_law_told", "_law_due"]) fun _ _ _ _ _ _ us hl => match us, hl with | [_, _], _ => rfl) fun cdv A outer s H E en hr tk => ?_
  exact (b_cons (s_if (t_cmp op_isN od_isN (e_var (i := 1)) (e_const pe_non fun _ => .non)) (b_one (s_ret (e_cmp op_isN od_isN (e_var (i := 0)) (e_const pe_non fun _ => .non)))) b_nil) (b_cons (s_if (t_val (e_isi T.b_isinstance T.b_bool (by decide +kernel) (e_var (i := 1)))) (b_one (s_ret (e_and (e_isi T.b_isinstance T.b_bool (by decide +kernel) (e_var (i := 0))) (e_one (e_cmp (op_eqD hr.units) od_eq (e_var (i := 0)) (e_var (i := 1))))))) b_nil) (b_cons (s_if (t_val (e_isi T.b_isinstance T.b_int (by decide +kernel) (e_var (i := 1)))) (b_one (s_ret (e_and (e_call (x__law_is_int T) (hr.mono (by omega)) tk (a_cons (e_var (i := 0)) a_nil)) (e_one (e_cmp (op_eqD hr.units) od_eq (e_var (i := 0)) (e_var (i := 1))))))) b_nil) (b_cons (s_if (t_val (e_isi T.b_isinstance T.b_str (by decide +kernel) (e_var (i := 1)))) (b_one (s_ret (e_and (e_isi T.b_isinstance T.b_str (by decide +kernel) (e_var (i := 0))) (e_one (e_cmp (op_eqD hr.units) od_eq (e_var (i := 0)) (e_var (i := 1))))))) b_nil) (b_cons (s_if (t_w (w_and (t_val (e_isi T.b_isinstance T.b_list (by decide +kernel) (e_var (i := 1)))) (w_and1 (t_not (t_val (e_isi T.b_isinstance T.b_list (by decide +kernel) (e_var (i := 0)))))))) (b_one (s_ret (e_const pe_bl fun _ => .bl _))) b_nil) (b_cons (s_if (t_w (w_and (t_val (e_isi T.b_isinstance T.b_tuple (by decide +kernel) (e_var (i := 1)))) (w_and1 (t_not (t_val (e_isi T.b_isinstance T.b_tuple (by decide +kernel) (e_var (i := 0)))))))) (b_one (s_ret (e_const pe_bl fun _ => .bl _))) b_nil) (b_cons (s_if (t_cmp (op_neD hr.units) od_ne (e_bt call_len cd_len T.b_len (by decide +kernel) (a_cons (e_var (i := 0)) a_nil)) (e_bt call_len cd_len T.b_len (by decide +kernel) (a_cons (e_var (i := 1)) a_nil))) (b_one (s_ret (e_const pe_bl fun _ => .bl _))) b_nil) (b_kill (b_cons (s_for (passes_of rfl) rfl (i_rng1 T.b_range (a_cons (e_bt call_len cd_len T.b_len (by decide +kernel) (a_cons (e_var (i := 1)) a_nil)) a_nil)) (pg_name (i := 2) sc__law_same.nd rfl (by first | exact Or.inl rfl | exact Or.inr rfl)) (gok_name 2) fun L => (b_cons (s_if (t_not (t_val (e_call ih hr tk (a_cons (e_ix (e_var (i := 0)) (e_var (i := 2))) (a_cons (e_ix (e_var (i := 1)) (e_var (i := 2))) a_nil))))) (b_one (s_ret (e_const pe_bl fun _ => .bl _))) b_nil) (b_kill b_nil))) (b_one (s_ret (e_const pe_bl fun _ => .bl _))))))))))))
def d__law_raise : DF := dFn 3 3 ((dSeq (dIfS (dTst (dOp fEq (dVar 0) (dC (.int 0)))) (dRaise "InvalidBook" ["part", "at"] (dCons (dVar 1) (dCons (dVar 2) dNil))) dSkip) (dSeq (dIfS (dTst (dOp fEq (dVar 0) (dC (.int 1)))) (dRaise "InvalidBound" ["name"] (dCons (dVar 1) dNil)) dSkip) (dSeq (dIfS (dTst (dOp fEq (dVar 0) (dC (.int 2)))) (dRaise "InvalidCall" ["call"] (dCons (dVar 1) dNil)) dSkip) (dSeq (dIfS (dTst (dOp fEq (dVar 0) (dC (.int 3)))) (dRaise "InvalidFraction" ["name"] (dCons (dVar 1) dNil)) dSkip) (dSeq (dIfS (dTst (dOp fEq (dVar 0) (dC (.int 4)))) (dRaise "InvalidHold" ["part"] (dCons (dVar 1) dNil)) dSkip) (dSeq (dIfS (dTst (dOp fEq (dVar 0) (dC (.int 5)))) (dRaise "InvalidRow" ["at"] (dCons (dVar 1) dNil)) dSkip) (dSeq (dIfS (dTst (dOp fEq (dVar 0) (dC (.int 6)))) (dRaise "InvalidStanding" ["at"] (dCons (dVar 1) dNil)) dSkip) (dSeq (dIfS (dTst (dOp fEq (dVar 0) (dC (.int 7)))) (dRaise "InvalidText" ["line", "word"] (dCons (dVar 1) (dCons (dVar 2) dNil))) dSkip) (dSeq (dIfS (dTst (dOp fEq (dVar 0) (dC (.int 8)))) (dRaise "LimitExceeded" ["limit"] (dCons (dVar 1) dNil)) dSkip) (dSeq (dIfS (dTst (dOp fEq (dVar 0) (dC (.int 9)))) (dRaise "NoLimit" ["pair"] (dCons (dTup (dCons (dVar 1) (dCons (dVar 2) dNil))) dNil)) dSkip) (dRaise "NotPlain" ["found"] (dCons (dVar 1) dNil)))))))))))))
theorem sc__law_raise : FnScope ["_law_which", "_law_one", "_law_other"] ["_law_which", "_law_one", "_law_other"] (defScope s__law_raise) := ⟨rfl, rfl, rfl, by decide +kernel, rfl, by decide +kernel, by decide +kernel⟩
theorem x__law_raise (T : Tx K mg) : FxN P w K mg base 3 "_law_raise" 3 d__law_raise := by
  obtain ⟨f, fd, Fh, hm⟩ := T.f__law_raise
  refine fx_okN Fh sc__law_raise rfl rfl hm (Fh.binds (ps := ["_law_which", "_law_one", "_law_other"]) fun _ _ _ _ _ _ us hl => match us, hl with | [_, _, _], _ => rfl) fun cdv A outer s H E en hr tk => ?_
  exact (b_cons (s_if (t_cmp (op_eqD hr.units) od_eq (e_var (i := 0)) (e_const pe_int fun _ => .int _)) (b_one (s_raiseN (xc_InvalidBook T) (hr.mono (by decide)) rfl tk (a_cons (e_var (i := 1)) (a_cons (e_var (i := 2)) a_nil)))) b_nil) (b_cons (s_if (t_cmp (op_eqD hr.units) od_eq (e_var (i := 0)) (e_const pe_int fun _ => .int _)) (b_one (s_raiseN (xc_InvalidBound T) (hr.mono (by decide)) rfl tk (a_cons (e_var (i := 1)) a_nil))) b_nil) (b_cons (s_if (t_cmp (op_eqD hr.units) od_eq (e_var (i := 0)) (e_const pe_int fun _ => .int _)) (b_one (s_raiseN (xc_InvalidCall T) (hr.mono (by decide)) rfl tk (a_cons (e_var (i := 1)) a_nil))) b_nil) (b_cons (s_if (t_cmp (op_eqD hr.units) od_eq (e_var (i := 0)) (e_const pe_int fun _ => .int _)) (b_one (s_raiseN (xc_InvalidFraction T) (hr.mono (by decide)) rfl tk (a_cons (e_var (i := 1)) a_nil))) b_nil) (b_cons (s_if (t_cmp (op_eqD hr.units) od_eq (e_var (i := 0)) (e_const pe_int fun _ => .int _)) (b_one (s_raiseN (xc_InvalidHold T) (hr.mono (by decide)) rfl tk (a_cons (e_var (i := 1)) a_nil))) b_nil) (b_cons (s_if (t_cmp (op_eqD hr.units) od_eq (e_var (i := 0)) (e_const pe_int fun _ => .int _)) (b_one (s_raiseN (xc_InvalidRow T) (hr.mono (by decide)) rfl tk (a_cons (e_var (i := 1)) a_nil))) b_nil) (b_cons (s_if (t_cmp (op_eqD hr.units) od_eq (e_var (i := 0)) (e_const pe_int fun _ => .int _)) (b_one (s_raiseN (xc_InvalidStanding T) (hr.mono (by decide)) rfl tk (a_cons (e_var (i := 1)) a_nil))) b_nil) (b_cons (s_if (t_cmp (op_eqD hr.units) od_eq (e_var (i := 0)) (e_const pe_int fun _ => .int _)) (b_one (s_raiseN (xc_InvalidText T) (hr.mono (by decide)) rfl tk (a_cons (e_var (i := 1)) (a_cons (e_var (i := 2)) a_nil)))) b_nil) (b_cons (s_if (t_cmp (op_eqD hr.units) od_eq (e_var (i := 0)) (e_const pe_int fun _ => .int _)) (b_one (s_raiseN (xc_LimitExceeded T) (hr.mono (by decide)) rfl tk (a_cons (e_var (i := 1)) a_nil))) b_nil) (b_cons (s_if (t_cmp (op_eqD hr.units) od_eq (e_var (i := 0)) (e_const pe_int fun _ => .int _)) (b_one (s_raiseN (xc_NoLimit T) (hr.mono (by decide)) rfl tk (a_cons (e_tup (a_cons (e_var (i := 1)) (a_cons (e_var (i := 2)) a_nil))) a_nil))) b_nil) (b_one (s_raiseN (xc_NotPlain T) (hr.mono (by decide)) rfl tk (a_cons (e_var (i := 1)) a_nil)))))))))))))
def d__law_classes (a0 dx0 : Nat) (c0 : Str) : DF := dFn 1 4 (if inX exL c0 = true then (dSeq (dAsg 1 (dLst (dCons (dIsX a0 dx0 c0 (subE c0 "InvalidBook") (dVar 0)) (dCons (dIsX a0 dx0 c0 (subE c0 "InvalidBound") (dVar 0)) (dCons (dIsX a0 dx0 c0 (subE c0 "InvalidCall") (dVar 0)) dNil))))) (dSeq (dAsg 2 (dLst (dCons (dIsX a0 dx0 c0 (subE c0 "InvalidFraction") (dVar 0)) (dCons (dIsX a0 dx0 c0 (subE c0 "InvalidHold") (dVar 0)) (dCons (dIsX a0 dx0 c0 (subE c0 "InvalidRow") (dVar 0)) dNil))))) (dSeq (dAsg 3 (dLst (dCons (dIsX a0 dx0 c0 (subE c0 "InvalidStanding") (dVar 0)) (dCons (dIsX a0 dx0 c0 (subE c0 "InvalidText") (dVar 0)) (dCons (dIsX a0 dx0 c0 (subE c0 "LimitExceeded") (dVar 0)) dNil))))) (dRet (dOp fAdd (dOp fAdd (dOp fAdd (dVar 1) (dVar 2)) (dVar 3)) (dLst (dCons (dIsX a0 dx0 c0 (subE c0 "NoLimit") (dVar 0)) (dCons (dIsX a0 dx0 c0 (subE c0 "NotPlain") (dVar 0)) dNil)))))))) else dBad)
theorem sc__law_classes : FnScope ["_law_e", "_law_first", "_law_second", "_law_third"] ["_law_e"] (defScope s__law_classes) := ⟨rfl, rfl, rfl, by decide +kernel, rfl, by decide +kernel, by decide +kernel⟩
theorem x__law_classes (T : Tx K mg) : FxX P w K mg base 1 "_law_classes" 1 d__law_classes := by
  obtain ⟨f, fd, Fh, hm⟩ := T.f__law_classes
  refine fx_okX (body := fun a0 dx0 c0 => if inX exL c0 = true then (dSeq (dAsg 1 (dLst (dCons (dIsX a0 dx0 c0 (subE c0 "InvalidBook") (dVar 0)) (dCons (dIsX a0 dx0 c0 (subE c0 "InvalidBound") (dVar 0)) (dCons (dIsX a0 dx0 c0 (subE c0 "InvalidCall") (dVar 0)) dNil))))) (dSeq (dAsg 2 (dLst (dCons (dIsX a0 dx0 c0 (subE c0 "InvalidFraction") (dVar 0)) (dCons (dIsX a0 dx0 c0 (subE c0 "InvalidHold") (dVar 0)) (dCons (dIsX a0 dx0 c0 (subE c0 "InvalidRow") (dVar 0)) dNil))))) (dSeq (dAsg 3 (dLst (dCons (dIsX a0 dx0 c0 (subE c0 "InvalidStanding") (dVar 0)) (dCons (dIsX a0 dx0 c0 (subE c0 "InvalidText") (dVar 0)) (dCons (dIsX a0 dx0 c0 (subE c0 "LimitExceeded") (dVar 0)) dNil))))) (dRet (dOp fAdd (dOp fAdd (dOp fAdd (dVar 1) (dVar 2)) (dVar 3)) (dLst (dCons (dIsX a0 dx0 c0 (subE c0 "NoLimit") (dVar 0)) (dCons (dIsX a0 dx0 c0 (subE c0 "NotPlain") (dVar 0)) dNil)))))))) else dBad) Fh sc__law_classes rfl rfl hm (Fh.binds (ps := ["_law_e"]) fun _ _ _ _ _ _ us hl => match us, hl with | [_], _ => rfl) fun cdv p A outer s H E en C dx c hot hr hC hE => b_ite fun hc => ?_
  exact (b_cons (s_set (i := 1) sc__law_classes.nd (e_lst (a_cons (e_isxT T.xf hc hC hE (e_var (i := 0)) T.b_isinstance) (a_cons (e_isxT T.xf hc hC hE (e_var (i := 0)) T.b_isinstance) (a_cons (e_isxT T.xf hc hC hE (e_var (i := 0)) T.b_isinstance) a_nil))))) (b_cons (s_set (i := 2) sc__law_classes.nd (e_lst (a_cons (e_isxT T.xf hc hC hE (e_var (i := 0)) T.b_isinstance) (a_cons (e_isxT T.xf hc hC hE (e_var (i := 0)) T.b_isinstance) (a_cons (e_isxT T.xf hc hC hE (e_var (i := 0)) T.b_isinstance) a_nil))))) (b_cons (s_set (i := 3) sc__law_classes.nd (e_lst (a_cons (e_isxT T.xf hc hC hE (e_var (i := 0)) T.b_isinstance) (a_cons (e_isxT T.xf hc hC hE (e_var (i := 0)) T.b_isinstance) (a_cons (e_isxT T.xf hc hC hE (e_var (i := 0)) T.b_isinstance) a_nil))))) (b_one (s_ret (e_op op_addA od_add (e_op op_addA od_add (e_op op_addA od_add (e_var (i := 1)) (e_var (i := 2))) (e_var (i := 3))) (e_lst (a_cons (e_isxT T.xf hc hC hE (e_var (i := 0)) T.b_isinstance) (a_cons (e_isxT T.xf hc hC hE (e_var (i := 0)) T.b_isinstance) a_nil)))))))))
def d__law_fields (a0 dx0 : Nat) (c0 : Str) : DF := dFn 1 1 (if inX exL c0 = true then (dSeq (dIfS (dTst (dIsX a0 dx0 c0 (subE c0 "InvalidBook") (dVar 0))) (dRet (dTup (dCons (dXf a0 dx0 c0 "part" (dVar 0)) (dCons (dXf a0 dx0 c0 "at" (dVar 0)) dNil)))) dSkip) (dSeq (dIfS (dOr (dTst (dIsX a0 dx0 c0 (subE c0 "InvalidBound") (dVar 0))) (dTst (dIsX a0 dx0 c0 (subE c0 "InvalidFraction") (dVar 0)))) (dRet (dTup (dCons (dXf a0 dx0 c0 "name" (dVar 0)) dNil))) dSkip) (dSeq (dIfS (dTst (dIsX a0 dx0 c0 (subE c0 "InvalidCall") (dVar 0))) (dRet (dTup (dCons (dXf a0 dx0 c0 "call" (dVar 0)) dNil))) dSkip) (dSeq (dIfS (dTst (dIsX a0 dx0 c0 (subE c0 "InvalidHold") (dVar 0))) (dRet (dTup (dCons (dXf a0 dx0 c0 "part" (dVar 0)) dNil))) dSkip) (dSeq (dIfS (dOr (dTst (dIsX a0 dx0 c0 (subE c0 "InvalidRow") (dVar 0))) (dTst (dIsX a0 dx0 c0 (subE c0 "InvalidStanding") (dVar 0)))) (dRet (dTup (dCons (dXf a0 dx0 c0 "at" (dVar 0)) dNil))) dSkip) (dSeq (dIfS (dTst (dIsX a0 dx0 c0 (subE c0 "InvalidText") (dVar 0))) (dRet (dTup (dCons (dXf a0 dx0 c0 "line" (dVar 0)) (dCons (dXf a0 dx0 c0 "word" (dVar 0)) dNil)))) dSkip) (dSeq (dIfS (dTst (dIsX a0 dx0 c0 (subE c0 "LimitExceeded") (dVar 0))) (dRet (dTup (dCons (dXf a0 dx0 c0 "limit" (dVar 0)) dNil))) dSkip) (dSeq (dIfS (dTst (dIsX a0 dx0 c0 (subE c0 "NoLimit") (dVar 0))) (dRet (dXf a0 dx0 c0 "pair" (dVar 0))) dSkip) (dRet (dTup (dCons (dXf a0 dx0 c0 "found" (dVar 0)) dNil))))))))))) else dBad)
theorem sc__law_fields : FnScope ["_law_e"] ["_law_e"] (defScope s__law_fields) := ⟨rfl, rfl, rfl, by decide +kernel, rfl, by decide +kernel, by decide +kernel⟩
theorem x__law_fields (T : Tx K mg) : FxX P w K mg base 1 "_law_fields" 1 d__law_fields := by
  obtain ⟨f, fd, Fh, hm⟩ := T.f__law_fields
  refine fx_okX (body := fun a0 dx0 c0 => if inX exL c0 = true then (dSeq (dIfS (dTst (dIsX a0 dx0 c0 (subE c0 "InvalidBook") (dVar 0))) (dRet (dTup (dCons (dXf a0 dx0 c0 "part" (dVar 0)) (dCons (dXf a0 dx0 c0 "at" (dVar 0)) dNil)))) dSkip) (dSeq (dIfS (dOr (dTst (dIsX a0 dx0 c0 (subE c0 "InvalidBound") (dVar 0))) (dTst (dIsX a0 dx0 c0 (subE c0 "InvalidFraction") (dVar 0)))) (dRet (dTup (dCons (dXf a0 dx0 c0 "name" (dVar 0)) dNil))) dSkip) (dSeq (dIfS (dTst (dIsX a0 dx0 c0 (subE c0 "InvalidCall") (dVar 0))) (dRet (dTup (dCons (dXf a0 dx0 c0 "call" (dVar 0)) dNil))) dSkip) (dSeq (dIfS (dTst (dIsX a0 dx0 c0 (subE c0 "InvalidHold") (dVar 0))) (dRet (dTup (dCons (dXf a0 dx0 c0 "part" (dVar 0)) dNil))) dSkip) (dSeq (dIfS (dOr (dTst (dIsX a0 dx0 c0 (subE c0 "InvalidRow") (dVar 0))) (dTst (dIsX a0 dx0 c0 (subE c0 "InvalidStanding") (dVar 0)))) (dRet (dTup (dCons (dXf a0 dx0 c0 "at" (dVar 0)) dNil))) dSkip) (dSeq (dIfS (dTst (dIsX a0 dx0 c0 (subE c0 "InvalidText") (dVar 0))) (dRet (dTup (dCons (dXf a0 dx0 c0 "line" (dVar 0)) (dCons (dXf a0 dx0 c0 "word" (dVar 0)) dNil)))) dSkip) (dSeq (dIfS (dTst (dIsX a0 dx0 c0 (subE c0 "LimitExceeded") (dVar 0))) (dRet (dTup (dCons (dXf a0 dx0 c0 "limit" (dVar 0)) dNil))) dSkip) (dSeq (dIfS (dTst (dIsX a0 dx0 c0 (subE c0 "NoLimit") (dVar 0))) (dRet (dXf a0 dx0 c0 "pair" (dVar 0))) dSkip) (dRet (dTup (dCons (dXf a0 dx0 c0 "found" (dVar 0)) dNil))))))))))) else dBad) Fh sc__law_fields rfl rfl hm (Fh.binds (ps := ["_law_e"]) fun _ _ _ _ _ _ us hl => match us, hl with | [_], _ => rfl) fun cdv p A outer s H E en C dx c hot hr hC hE => b_ite fun hc => ?_
  exact (b_cons (s_if (t_val (e_isxT T.xf hc hC hE (e_var (i := 0)) T.b_isinstance)) (b_one (s_ret (e_tup (a_cons (e_xfT T.xf hc hC hE (e_var (i := 0))) (a_cons (e_xfT T.xf hc hC hE (e_var (i := 0))) a_nil))))) b_nil) (b_cons (s_if (t_w (w_or (t_val (e_isxT T.xf hc hC hE (e_var (i := 0)) T.b_isinstance)) (w_or1 (t_val (e_isxT T.xf hc hC hE (e_var (i := 0)) T.b_isinstance))))) (b_one (s_ret (e_tup (a_cons (e_xfT T.xf hc hC hE (e_var (i := 0))) a_nil)))) b_nil) (b_cons (s_if (t_val (e_isxT T.xf hc hC hE (e_var (i := 0)) T.b_isinstance)) (b_one (s_ret (e_tup (a_cons (e_xfT T.xf hc hC hE (e_var (i := 0))) a_nil)))) b_nil) (b_cons (s_if (t_val (e_isxT T.xf hc hC hE (e_var (i := 0)) T.b_isinstance)) (b_one (s_ret (e_tup (a_cons (e_xfT T.xf hc hC hE (e_var (i := 0))) a_nil)))) b_nil) (b_cons (s_if (t_w (w_or (t_val (e_isxT T.xf hc hC hE (e_var (i := 0)) T.b_isinstance)) (w_or1 (t_val (e_isxT T.xf hc hC hE (e_var (i := 0)) T.b_isinstance))))) (b_one (s_ret (e_tup (a_cons (e_xfT T.xf hc hC hE (e_var (i := 0))) a_nil)))) b_nil) (b_cons (s_if (t_val (e_isxT T.xf hc hC hE (e_var (i := 0)) T.b_isinstance)) (b_one (s_ret (e_tup (a_cons (e_xfT T.xf hc hC hE (e_var (i := 0))) (a_cons (e_xfT T.xf hc hC hE (e_var (i := 0))) a_nil))))) b_nil) (b_cons (s_if (t_val (e_isxT T.xf hc hC hE (e_var (i := 0)) T.b_isinstance)) (b_one (s_ret (e_tup (a_cons (e_xfT T.xf hc hC hE (e_var (i := 0))) a_nil)))) b_nil) (b_cons (s_if (t_val (e_isxT T.xf hc hC hE (e_var (i := 0)) T.b_isinstance)) (b_one (s_ret (e_xfT T.xf hc hC hE (e_var (i := 0))))) b_nil) (b_one (s_ret (e_tup (a_cons (e_xfT T.xf hc hC hE (e_var (i := 0))) a_nil))))))))))))
def exH (a0 dx0 : Nat) (c0 : Str) : DS := if inX exL c0 = true then dRet (dTup (dCons (dIsX a0 dx0 c0 (subE c0 "ArithmeticError") (dVar 3)) (dCons (dCall (d__law_classes a0 dx0 c0) (dCons (dVar 3) dNil)) (dCons (dCall (d__law_fields a0 dx0 c0) (dCons (dVar 3) dNil)) dNil)))) else dBad
def exR (c : Str) (fs : List (Str × D)) : DS := fun ρ S => exH 0 0 c (ρ.set 3 (some (.d (.exc 0 0 c fs)))) S
def exS (c : Str) : Option Bool := if inX exL c = true then some true else none
theorem exS_in {c : Str} {b : Bool} (h : exS c = some b) : inX exL c = true ∧ b = true := by
  unfold exS at h
  split at h
  · rename_i hc; exact ⟨hc, (Option.some.inj h).symm⟩
  · cases h
@[simp] theorem isxW_self (a dx : Nat) (c : Str) (b : Bool) (fs : List (Str × D)) (S : Sto) : isxW a dx c b (.d (.exc a dx c fs)) S = .ok (.d (.bl b)) S := by simp [isxW]
@[simp] theorem xfW_self (a dx : Nat) (c f : Str) (fs : List (Str × D)) (S : Sto) : xfW a dx c f (.d (.exc a dx c fs)) S = (match fs.lookup f with
    | some x => .ok (.d x) S
    | none => .bad) := by
  show (if a = a ∧ dx = dx ∧ c = c then _ else _) = _
  rw [if_pos ⟨rfl, rfl, rfl⟩] <;> (cases fs.lookup f <;> rfl)
@[simp] theorem v_dIsX (a dx : Nat) (c : Str) (b : Bool) (e : DE) (ρ : Ev) (S : Sto) : dIsX a dx c b e ρ S = (e ρ S).bind (isxW a dx c b) := rfl
@[simp] theorem v_dXf (a dx : Nat) (c f : Str) (e : DE) (ρ : Ev) (S : Sto) : dXf a dx c f e ρ S = (e ρ S).bind (xfW a dx c f) := rfl
def clsL (c : Str) : List D := [.bl (subE c "InvalidBook"), .bl (subE c "InvalidBound"), .bl (subE c "InvalidCall"), .bl (subE c "InvalidFraction"), .bl (subE c "InvalidHold"), .bl (subE c "InvalidRow"), .bl (subE c "InvalidStanding"), .bl (subE c "InvalidText"), .bl (subE c "LimitExceeded"), .bl (subE c "NoLimit"), .bl (subE c "NotPlain")]
theorem cls_ev (a dx : Nat) (c : Str) (fs : List (Str × D)) (S : Sto) (h : inX exL c = true) : d__law_classes a dx c [.d (.exc a dx c fs)] S = .ok (.d (.lst (clsL c))) S := by
  simp [d__law_classes, dFn, h, mkLst, fAdd, clsL, sizeLine]
@[simp] theorem sub_0_0 : subE "InvalidFraction" "InvalidFraction" = true := by decide +kernel
@[simp] theorem sub_0_1 : subE "InvalidFraction" "InvalidBound" = false := by decide +kernel
@[simp] theorem sub_0_2 : subE "InvalidFraction" "InvalidBook" = false := by decide +kernel
@[simp] theorem sub_0_3 : subE "InvalidFraction" "InvalidStanding" = false := by decide +kernel
@[simp] theorem sub_0_4 : subE "InvalidFraction" "InvalidRow" = false := by decide +kernel
@[simp] theorem sub_0_5 : subE "InvalidFraction" "InvalidHold" = false := by decide +kernel
@[simp] theorem sub_0_6 : subE "InvalidFraction" "InvalidText" = false := by decide +kernel
@[simp] theorem sub_0_7 : subE "InvalidFraction" "InvalidCall" = false := by decide +kernel
@[simp] theorem sub_0_8 : subE "InvalidFraction" "NoLimit" = false := by decide +kernel
@[simp] theorem sub_0_9 : subE "InvalidFraction" "NotPlain" = false := by decide +kernel
@[simp] theorem sub_0_10 : subE "InvalidFraction" "LimitExceeded" = false := by decide +kernel
@[simp] theorem sub_0_S : subE "InvalidFraction" "ShareError" = true := by decide +kernel
@[simp] theorem sub_0_A : subE "InvalidFraction" "ArithmeticError" = true := by decide +kernel
@[simp] theorem inX_0 : inX exL "InvalidFraction" = true := by decide +kernel
@[simp] theorem sub_1_0 : subE "InvalidBound" "InvalidFraction" = false := by decide +kernel
@[simp] theorem sub_1_1 : subE "InvalidBound" "InvalidBound" = true := by decide +kernel
@[simp] theorem sub_1_2 : subE "InvalidBound" "InvalidBook" = false := by decide +kernel
@[simp] theorem sub_1_3 : subE "InvalidBound" "InvalidStanding" = false := by decide +kernel
@[simp] theorem sub_1_4 : subE "InvalidBound" "InvalidRow" = false := by decide +kernel
@[simp] theorem sub_1_5 : subE "InvalidBound" "InvalidHold" = false := by decide +kernel
@[simp] theorem sub_1_6 : subE "InvalidBound" "InvalidText" = false := by decide +kernel
@[simp] theorem sub_1_7 : subE "InvalidBound" "InvalidCall" = false := by decide +kernel
@[simp] theorem sub_1_8 : subE "InvalidBound" "NoLimit" = false := by decide +kernel
@[simp] theorem sub_1_9 : subE "InvalidBound" "NotPlain" = false := by decide +kernel
@[simp] theorem sub_1_10 : subE "InvalidBound" "LimitExceeded" = false := by decide +kernel
@[simp] theorem sub_1_S : subE "InvalidBound" "ShareError" = true := by decide +kernel
@[simp] theorem sub_1_A : subE "InvalidBound" "ArithmeticError" = true := by decide +kernel
@[simp] theorem inX_1 : inX exL "InvalidBound" = true := by decide +kernel
@[simp] theorem sub_2_0 : subE "InvalidBook" "InvalidFraction" = false := by decide +kernel
@[simp] theorem sub_2_1 : subE "InvalidBook" "InvalidBound" = false := by decide +kernel
@[simp] theorem sub_2_2 : subE "InvalidBook" "InvalidBook" = true := by decide +kernel
@[simp] theorem sub_2_3 : subE "InvalidBook" "InvalidStanding" = false := by decide +kernel
@[simp] theorem sub_2_4 : subE "InvalidBook" "InvalidRow" = false := by decide +kernel
@[simp] theorem sub_2_5 : subE "InvalidBook" "InvalidHold" = false := by decide +kernel
@[simp] theorem sub_2_6 : subE "InvalidBook" "InvalidText" = false := by decide +kernel
@[simp] theorem sub_2_7 : subE "InvalidBook" "InvalidCall" = false := by decide +kernel
@[simp] theorem sub_2_8 : subE "InvalidBook" "NoLimit" = false := by decide +kernel
@[simp] theorem sub_2_9 : subE "InvalidBook" "NotPlain" = false := by decide +kernel
@[simp] theorem sub_2_10 : subE "InvalidBook" "LimitExceeded" = false := by decide +kernel
@[simp] theorem sub_2_S : subE "InvalidBook" "ShareError" = true := by decide +kernel
@[simp] theorem sub_2_A : subE "InvalidBook" "ArithmeticError" = true := by decide +kernel
@[simp] theorem inX_2 : inX exL "InvalidBook" = true := by decide +kernel
@[simp] theorem sub_3_0 : subE "InvalidStanding" "InvalidFraction" = false := by decide +kernel
@[simp] theorem sub_3_1 : subE "InvalidStanding" "InvalidBound" = false := by decide +kernel
@[simp] theorem sub_3_2 : subE "InvalidStanding" "InvalidBook" = false := by decide +kernel
@[simp] theorem sub_3_3 : subE "InvalidStanding" "InvalidStanding" = true := by decide +kernel
@[simp] theorem sub_3_4 : subE "InvalidStanding" "InvalidRow" = false := by decide +kernel
@[simp] theorem sub_3_5 : subE "InvalidStanding" "InvalidHold" = false := by decide +kernel
@[simp] theorem sub_3_6 : subE "InvalidStanding" "InvalidText" = false := by decide +kernel
@[simp] theorem sub_3_7 : subE "InvalidStanding" "InvalidCall" = false := by decide +kernel
@[simp] theorem sub_3_8 : subE "InvalidStanding" "NoLimit" = false := by decide +kernel
@[simp] theorem sub_3_9 : subE "InvalidStanding" "NotPlain" = false := by decide +kernel
@[simp] theorem sub_3_10 : subE "InvalidStanding" "LimitExceeded" = false := by decide +kernel
@[simp] theorem sub_3_S : subE "InvalidStanding" "ShareError" = true := by decide +kernel
@[simp] theorem sub_3_A : subE "InvalidStanding" "ArithmeticError" = true := by decide +kernel
@[simp] theorem inX_3 : inX exL "InvalidStanding" = true := by decide +kernel
@[simp] theorem sub_4_0 : subE "InvalidRow" "InvalidFraction" = false := by decide +kernel
@[simp] theorem sub_4_1 : subE "InvalidRow" "InvalidBound" = false := by decide +kernel
@[simp] theorem sub_4_2 : subE "InvalidRow" "InvalidBook" = false := by decide +kernel
@[simp] theorem sub_4_3 : subE "InvalidRow" "InvalidStanding" = false := by decide +kernel
@[simp] theorem sub_4_4 : subE "InvalidRow" "InvalidRow" = true := by decide +kernel
@[simp] theorem sub_4_5 : subE "InvalidRow" "InvalidHold" = false := by decide +kernel
@[simp] theorem sub_4_6 : subE "InvalidRow" "InvalidText" = false := by decide +kernel
@[simp] theorem sub_4_7 : subE "InvalidRow" "InvalidCall" = false := by decide +kernel
@[simp] theorem sub_4_8 : subE "InvalidRow" "NoLimit" = false := by decide +kernel
@[simp] theorem sub_4_9 : subE "InvalidRow" "NotPlain" = false := by decide +kernel
@[simp] theorem sub_4_10 : subE "InvalidRow" "LimitExceeded" = false := by decide +kernel
@[simp] theorem sub_4_S : subE "InvalidRow" "ShareError" = true := by decide +kernel
@[simp] theorem sub_4_A : subE "InvalidRow" "ArithmeticError" = true := by decide +kernel
@[simp] theorem inX_4 : inX exL "InvalidRow" = true := by decide +kernel
@[simp] theorem sub_5_0 : subE "InvalidHold" "InvalidFraction" = false := by decide +kernel
@[simp] theorem sub_5_1 : subE "InvalidHold" "InvalidBound" = false := by decide +kernel
@[simp] theorem sub_5_2 : subE "InvalidHold" "InvalidBook" = false := by decide +kernel
@[simp] theorem sub_5_3 : subE "InvalidHold" "InvalidStanding" = false := by decide +kernel
@[simp] theorem sub_5_4 : subE "InvalidHold" "InvalidRow" = false := by decide +kernel
@[simp] theorem sub_5_5 : subE "InvalidHold" "InvalidHold" = true := by decide +kernel
@[simp] theorem sub_5_6 : subE "InvalidHold" "InvalidText" = false := by decide +kernel
@[simp] theorem sub_5_7 : subE "InvalidHold" "InvalidCall" = false := by decide +kernel
@[simp] theorem sub_5_8 : subE "InvalidHold" "NoLimit" = false := by decide +kernel
@[simp] theorem sub_5_9 : subE "InvalidHold" "NotPlain" = false := by decide +kernel
@[simp] theorem sub_5_10 : subE "InvalidHold" "LimitExceeded" = false := by decide +kernel
@[simp] theorem sub_5_S : subE "InvalidHold" "ShareError" = true := by decide +kernel
@[simp] theorem sub_5_A : subE "InvalidHold" "ArithmeticError" = true := by decide +kernel
@[simp] theorem inX_5 : inX exL "InvalidHold" = true := by decide +kernel
@[simp] theorem sub_6_0 : subE "InvalidText" "InvalidFraction" = false := by decide +kernel
@[simp] theorem sub_6_1 : subE "InvalidText" "InvalidBound" = false := by decide +kernel
@[simp] theorem sub_6_2 : subE "InvalidText" "InvalidBook" = false := by decide +kernel
@[simp] theorem sub_6_3 : subE "InvalidText" "InvalidStanding" = false := by decide +kernel
@[simp] theorem sub_6_4 : subE "InvalidText" "InvalidRow" = false := by decide +kernel
@[simp] theorem sub_6_5 : subE "InvalidText" "InvalidHold" = false := by decide +kernel
@[simp] theorem sub_6_6 : subE "InvalidText" "InvalidText" = true := by decide +kernel
@[simp] theorem sub_6_7 : subE "InvalidText" "InvalidCall" = false := by decide +kernel
@[simp] theorem sub_6_8 : subE "InvalidText" "NoLimit" = false := by decide +kernel
@[simp] theorem sub_6_9 : subE "InvalidText" "NotPlain" = false := by decide +kernel
@[simp] theorem sub_6_10 : subE "InvalidText" "LimitExceeded" = false := by decide +kernel
@[simp] theorem sub_6_S : subE "InvalidText" "ShareError" = true := by decide +kernel
@[simp] theorem sub_6_A : subE "InvalidText" "ArithmeticError" = true := by decide +kernel
@[simp] theorem inX_6 : inX exL "InvalidText" = true := by decide +kernel
@[simp] theorem sub_7_0 : subE "InvalidCall" "InvalidFraction" = false := by decide +kernel
@[simp] theorem sub_7_1 : subE "InvalidCall" "InvalidBound" = false := by decide +kernel
@[simp] theorem sub_7_2 : subE "InvalidCall" "InvalidBook" = false := by decide +kernel
@[simp] theorem sub_7_3 : subE "InvalidCall" "InvalidStanding" = false := by decide +kernel
@[simp] theorem sub_7_4 : subE "InvalidCall" "InvalidRow" = false := by decide +kernel
@[simp] theorem sub_7_5 : subE "InvalidCall" "InvalidHold" = false := by decide +kernel
@[simp] theorem sub_7_6 : subE "InvalidCall" "InvalidText" = false := by decide +kernel
@[simp] theorem sub_7_7 : subE "InvalidCall" "InvalidCall" = true := by decide +kernel
@[simp] theorem sub_7_8 : subE "InvalidCall" "NoLimit" = false := by decide +kernel
@[simp] theorem sub_7_9 : subE "InvalidCall" "NotPlain" = false := by decide +kernel
@[simp] theorem sub_7_10 : subE "InvalidCall" "LimitExceeded" = false := by decide +kernel
@[simp] theorem sub_7_S : subE "InvalidCall" "ShareError" = true := by decide +kernel
@[simp] theorem sub_7_A : subE "InvalidCall" "ArithmeticError" = true := by decide +kernel
@[simp] theorem inX_7 : inX exL "InvalidCall" = true := by decide +kernel
@[simp] theorem sub_8_0 : subE "NoLimit" "InvalidFraction" = false := by decide +kernel
@[simp] theorem sub_8_1 : subE "NoLimit" "InvalidBound" = false := by decide +kernel
@[simp] theorem sub_8_2 : subE "NoLimit" "InvalidBook" = false := by decide +kernel
@[simp] theorem sub_8_3 : subE "NoLimit" "InvalidStanding" = false := by decide +kernel
@[simp] theorem sub_8_4 : subE "NoLimit" "InvalidRow" = false := by decide +kernel
@[simp] theorem sub_8_5 : subE "NoLimit" "InvalidHold" = false := by decide +kernel
@[simp] theorem sub_8_6 : subE "NoLimit" "InvalidText" = false := by decide +kernel
@[simp] theorem sub_8_7 : subE "NoLimit" "InvalidCall" = false := by decide +kernel
@[simp] theorem sub_8_8 : subE "NoLimit" "NoLimit" = true := by decide +kernel
@[simp] theorem sub_8_9 : subE "NoLimit" "NotPlain" = false := by decide +kernel
@[simp] theorem sub_8_10 : subE "NoLimit" "LimitExceeded" = false := by decide +kernel
@[simp] theorem sub_8_S : subE "NoLimit" "ShareError" = true := by decide +kernel
@[simp] theorem sub_8_A : subE "NoLimit" "ArithmeticError" = true := by decide +kernel
@[simp] theorem inX_8 : inX exL "NoLimit" = true := by decide +kernel
@[simp] theorem sub_9_0 : subE "NotPlain" "InvalidFraction" = false := by decide +kernel
@[simp] theorem sub_9_1 : subE "NotPlain" "InvalidBound" = false := by decide +kernel
@[simp] theorem sub_9_2 : subE "NotPlain" "InvalidBook" = false := by decide +kernel
@[simp] theorem sub_9_3 : subE "NotPlain" "InvalidStanding" = false := by decide +kernel
@[simp] theorem sub_9_4 : subE "NotPlain" "InvalidRow" = false := by decide +kernel
@[simp] theorem sub_9_5 : subE "NotPlain" "InvalidHold" = false := by decide +kernel
@[simp] theorem sub_9_6 : subE "NotPlain" "InvalidText" = false := by decide +kernel
@[simp] theorem sub_9_7 : subE "NotPlain" "InvalidCall" = false := by decide +kernel
@[simp] theorem sub_9_8 : subE "NotPlain" "NoLimit" = false := by decide +kernel
@[simp] theorem sub_9_9 : subE "NotPlain" "NotPlain" = true := by decide +kernel
@[simp] theorem sub_9_10 : subE "NotPlain" "LimitExceeded" = false := by decide +kernel
@[simp] theorem sub_9_S : subE "NotPlain" "ShareError" = true := by decide +kernel
@[simp] theorem sub_9_A : subE "NotPlain" "ArithmeticError" = true := by decide +kernel
@[simp] theorem inX_9 : inX exL "NotPlain" = true := by decide +kernel
@[simp] theorem sub_10_0 : subE "LimitExceeded" "InvalidFraction" = false := by decide +kernel
@[simp] theorem sub_10_1 : subE "LimitExceeded" "InvalidBound" = false := by decide +kernel
@[simp] theorem sub_10_2 : subE "LimitExceeded" "InvalidBook" = false := by decide +kernel
@[simp] theorem sub_10_3 : subE "LimitExceeded" "InvalidStanding" = false := by decide +kernel
@[simp] theorem sub_10_4 : subE "LimitExceeded" "InvalidRow" = false := by decide +kernel
@[simp] theorem sub_10_5 : subE "LimitExceeded" "InvalidHold" = false := by decide +kernel
@[simp] theorem sub_10_6 : subE "LimitExceeded" "InvalidText" = false := by decide +kernel
@[simp] theorem sub_10_7 : subE "LimitExceeded" "InvalidCall" = false := by decide +kernel
@[simp] theorem sub_10_8 : subE "LimitExceeded" "NoLimit" = false := by decide +kernel
@[simp] theorem sub_10_9 : subE "LimitExceeded" "NotPlain" = false := by decide +kernel
@[simp] theorem sub_10_10 : subE "LimitExceeded" "LimitExceeded" = true := by decide +kernel
@[simp] theorem sub_10_S : subE "LimitExceeded" "ShareError" = true := by decide +kernel
@[simp] theorem sub_10_A : subE "LimitExceeded" "ArithmeticError" = true := by decide +kernel
@[simp] theorem inX_10 : inX exL "LimitExceeded" = true := by decide +kernel
def tup1 (fs : List (Str × D)) (f : Str) : Option D := match fs.lookup f with
  | some x => some (.tup [x])
  | none => none
def tup2 (fs : List (Str × D)) (f g : Str) : Option D := match fs.lookup f with
  | some x => (match fs.lookup g with
    | some y => some (.tup [x, y])
    | none => none)
  | none => none
def fldV (c : Str) (fs : List (Str × D)) : Option D :=
  if subE c "InvalidBook" = true then tup2 fs "part" "at" else if subE c "InvalidBound" = true ∨ subE c "InvalidFraction" = true then tup1 fs "name" else if subE c "InvalidCall" = true then tup1 fs "call" else if subE c "InvalidHold" = true then tup1 fs "part"
  else if subE c "InvalidRow" = true ∨ subE c "InvalidStanding" = true then tup1 fs "at" else if subE c "InvalidText" = true then tup2 fs "line" "word" else if subE c "LimitExceeded" = true then tup1 fs "limit" else if subE c "NoLimit" = true then fs.lookup ("pair" : Str) else tup1 fs "found"
theorem inX_cases {c : Str} (h : inX exL c = true) : c = "InvalidFraction" ∨ c = "InvalidBound" ∨ c = "InvalidBook" ∨ c = "InvalidStanding" ∨ c = "InvalidRow" ∨ c = "InvalidHold" ∨ c = "InvalidText" ∨ c = "InvalidCall" ∨ c = "NoLimit" ∨ c = "NotPlain" ∨ c = "LimitExceeded" := by
  simp only [inX, exL, List.any_cons, List.any_nil, Bool.or_false, Bool.or_eq_true, beq_iff_eq] at h
  rcases h with h | h | h | h | h | h | h | h | h | h | h <;> subst h <;> simp
theorem one_ev (a dx : Nat) (c f : Str) (fs : List (Str × D)) (S : Sto) : dTup (dCons (dXf a dx c f (dVar 0)) dNil) [some (.d (.exc a dx c fs))] S = (match tup1 fs f with
    | some z => .ok (.d z) S
    | none => .bad) := by
  simp only [v_dTup, v_dCons, v_dXf, v_dVar, List.getElem?_cons_zero, stab_d, ob_ok, xfW_self, tup1]
  cases fs.lookup f with
  | none => rfl
  | some x => simp [mkTup]
theorem two_ev (a dx : Nat) (c f g : Str) (fs : List (Str × D)) (S : Sto) : dTup (dCons (dXf a dx c f (dVar 0)) (dCons (dXf a dx c g (dVar 0)) dNil)) [some (.d (.exc a dx c fs))] S = (match tup2 fs f g with
    | some z => .ok (.d z) S
    | none => .bad) := by
  simp only [v_dTup, v_dCons, v_dXf, v_dVar, List.getElem?_cons_zero, stab_d, ob_ok, xfW_self, tup2]
  cases fs.lookup f with
  | none => rfl
  | some x =>
    simp only [ob_ok]
    cases fs.lookup g with
    | none => rfl
    | some y => simp [mkTup]
theorem fld_ev (a dx : Nat) (c : Str) (fs : List (Str × D)) (S : Sto) (h : inX exL c = true) : d__law_fields a dx c [.d (.exc a dx c fs)] S = (match fldV c fs with
    | some z => .ok (.d z) S
    | none => .bad) := by
  have key : ∀ (t : Str) (b : Bool) (ρ : Ev), dTst (dIsX a dx c b (dVar 0)) [some (.d (.exc a dx c fs))] S = .ok b S := fun t b ρ => by
    simp only [v_dTst, v_dIsX, v_dVar, List.getElem?_cons_zero, stab_d, ob_ok, isxW_self, v_tst]
  have gen : ∀ {o : Option D} {k : SOut}, (match o with
      | some z => (.rt (.d z) S : SOut)
      | none => .bad) = k → True := fun _ => trivial
  have r1 : ∀ f, dRet (dTup (dCons (dXf a dx c f (dVar 0)) dNil)) [some (.d (.exc a dx c fs))] S = (match tup1 fs f with
    | some z => .rt (.d z) S
    | none => .bad) := fun f => by
    rw [v_dRet, one_ev]; cases tup1 fs f <;> rfl
  have r2 : ∀ f g, dRet (dTup (dCons (dXf a dx c f (dVar 0)) (dCons (dXf a dx c g (dVar 0)) dNil))) [some (.d (.exc a dx c fs))] S = (match tup2 fs f g with
    | some z => .rt (.d z) S
    | none => .bad) := fun f g => by
    rw [v_dRet, two_ev]; cases tup2 fs f g <;> rfl
  have r3 : ∀ f, dRet (dXf a dx c f (dVar 0)) [some (.d (.exc a dx c fs))] S = (match fs.lookup f with
    | some z => .rt (.d z) S
    | none => .bad) := fun f => by
    simp only [v_dRet, v_dXf, v_dVar, List.getElem?_cons_zero, stab_d, ob_ok, xfW_self]
    cases fs.lookup f <;> rfl
  have key' : ∀ (b : Bool), dTst (dIsX a dx c b (dVar 0)) [some (.d (.exc a dx c fs))] S = .ok b S := fun b => key c b []
  simp only [d__law_fields, dFn, h, if_true, List.length_cons, List.length_nil, List.map, List.replicate, Nat.sub_self, List.append_nil, v_dSeq, v_dIfS, v_dOr, key', ob_ok, sb_ok, r1, r2, r3]
  rcases inX_cases h with h | h | h | h | h | h | h | h | h | h | h <;> subst h
  all_goals simp only [fldV, sub_0_0, sub_0_1, sub_0_2, sub_0_3, sub_0_4, sub_0_5, sub_0_6, sub_0_7, sub_0_8, sub_0_9, sub_0_10, sub_1_0, sub_1_1, sub_1_2, sub_1_3, sub_1_4, sub_1_5, sub_1_6, sub_1_7, sub_1_8, sub_1_9, sub_1_10, sub_2_0, sub_2_1, sub_2_2, sub_2_3, sub_2_4, sub_2_5, sub_2_6, sub_2_7, sub_2_8, sub_2_9, sub_2_10, sub_3_0, sub_3_1, sub_3_2, sub_3_3, sub_3_4, sub_3_5, sub_3_6, sub_3_7, sub_3_8, sub_3_9, sub_3_10, sub_4_0, sub_4_1, sub_4_2, sub_4_3, sub_4_4, sub_4_5, sub_4_6, sub_4_7, sub_4_8, sub_4_9, sub_4_10, sub_5_0, sub_5_1, sub_5_2, sub_5_3, sub_5_4, sub_5_5, sub_5_6, sub_5_7, sub_5_8, sub_5_9, sub_5_10, sub_6_0, sub_6_1, sub_6_2, sub_6_3, sub_6_4, sub_6_5, sub_6_6, sub_6_7, sub_6_8, sub_6_9, sub_6_10, sub_7_0, sub_7_1, sub_7_2, sub_7_3, sub_7_4, sub_7_5, sub_7_6, sub_7_7, sub_7_8, sub_7_9, sub_7_10, sub_8_0, sub_8_1, sub_8_2, sub_8_3, sub_8_4, sub_8_5, sub_8_6, sub_8_7, sub_8_8, sub_8_9, sub_8_10, sub_9_0, sub_9_1, sub_9_2, sub_9_3, sub_9_4, sub_9_5, sub_9_6, sub_9_7, sub_9_8, sub_9_9, sub_9_10, sub_10_0, sub_10_1, sub_10_2, sub_10_3, sub_10_4, sub_10_5, sub_10_6, sub_10_7, sub_10_8, sub_10_9, sub_10_10]
  all_goals simp only [if_true, Bool.false_eq_true, if_false, or_false, false_or, or_true, true_or, v_skip, q_nx, v_dSeq, v_dIfS, v_dOr, key', ob_ok, sb_ok, r1, r2, r3, sub_0_0, sub_0_1, sub_0_2, sub_0_3, sub_0_4, sub_0_5, sub_0_6, sub_0_7, sub_0_8, sub_0_9, sub_0_10, sub_1_0, sub_1_1, sub_1_2, sub_1_3, sub_1_4, sub_1_5, sub_1_6, sub_1_7, sub_1_8, sub_1_9, sub_1_10, sub_2_0, sub_2_1, sub_2_2, sub_2_3, sub_2_4, sub_2_5, sub_2_6, sub_2_7, sub_2_8, sub_2_9, sub_2_10, sub_3_0, sub_3_1, sub_3_2, sub_3_3, sub_3_4, sub_3_5, sub_3_6, sub_3_7, sub_3_8, sub_3_9, sub_3_10, sub_4_0, sub_4_1, sub_4_2, sub_4_3, sub_4_4, sub_4_5, sub_4_6, sub_4_7, sub_4_8, sub_4_9, sub_4_10, sub_5_0, sub_5_1, sub_5_2, sub_5_3, sub_5_4, sub_5_5, sub_5_6, sub_5_7, sub_5_8, sub_5_9, sub_5_10, sub_6_0, sub_6_1, sub_6_2, sub_6_3, sub_6_4, sub_6_5, sub_6_6, sub_6_7, sub_6_8, sub_6_9, sub_6_10, sub_7_0, sub_7_1, sub_7_2, sub_7_3, sub_7_4, sub_7_5, sub_7_6, sub_7_7, sub_7_8, sub_7_9, sub_7_10, sub_8_0, sub_8_1, sub_8_2, sub_8_3, sub_8_4, sub_8_5, sub_8_6, sub_8_7, sub_8_8, sub_8_9, sub_8_10, sub_9_0, sub_9_1, sub_9_2, sub_9_3, sub_9_4, sub_9_5, sub_9_6, sub_9_7, sub_9_8, sub_9_9, sub_9_10, sub_10_0, sub_10_1, sub_10_2, sub_10_3, sub_10_4, sub_10_5, sub_10_6, sub_10_7, sub_10_8, sub_10_9, sub_10_10]
  all_goals first
    | (cases tup1 fs _ <;> rfl)
    | (cases tup2 fs _ _ <;> rfl)
    | (cases fs.lookup _ <;> rfl)
theorem exH_at {a dx : Nat} {c : Str} {fs : List (Str × D)} {ρ : Ev} {S : Sto} (hl : ρ.length = 4) (hc : inX exL c = true) : exH a dx c (ρ.set 3 (some (.d (.exc a dx c fs)))) S = (match fldV c fs with
    | some z => .rt (.d (.tup [.bl true, .lst (clsL c), z])) S
    | none => .bad) := by
  have hs : subE c "ArithmeticError" = true := by
    rcases inX_cases hc with h | h | h | h | h | h | h | h | h | h | h <;> subst h <;> simp
  match ρ, hl with
  | [x0, x1, x2, x3], _ =>
    simp only [exH, hc, if_true, v_dRet, v_dTup, v_dCons, v_dIsX, v_dVar, List.set_cons_succ, List.set_cons_zero, List.getElem?_cons_succ, List.getElem?_cons_zero, stab_d, ob_ok, isxW_self, v_dCall, v_dNil, v_ap, List.all_cons, List.all_nil, v_isStab_d, Bool.and_self, cls_ev a dx c fs S hc, fld_ev a dx c fs S hc, hs]
    cases fldV c fs with
    | none => rfl
    | some z => simp [mkTup]
theorem exR_ev {c : Str} {fs : List (Str × D)} {ρ : Ev} {S : Sto} (hl : ρ.length = 4) (hc : inX exL c = true) : exR c fs ρ S = (match fldV c fs with
    | some z => .rt (.d (.tup [.bl true, .lst (clsL c), z])) S
    | none => .bad) := exH_at hl hc
def exR2 (c : Str) (fs : List (Str × D)) : DS := fun ρ S => match fldV c fs with
    | some z => .rt (.d (.tup [.bl true, .lst (clsL c), z])) S
    | none => .bad
def d__law_caught : DF := dFn 3 4 (dSeq (dTry1 exS 3 (dExp (dCall d__law_raise (dCons (dVar 0) (dCons (dVar 1) (dCons (dVar 2) dNil))))) exR2) (dRet (dC .non)))
theorem sc__law_caught : FnScope ["_law_which", "_law_one", "_law_other", "_law_e"] ["_law_which", "_law_one", "_law_other"] (defScope s__law_caught) := ⟨rfl, rfl, rfl, by decide +kernel, rfl, by decide +kernel, by decide +kernel⟩
theorem x__law_caught (T : Tx K mg) : Fx P w K mg base 6 "_law_caught" 3 d__law_caught := by
  obtain ⟨f, fd, Fh, hm⟩ := T.f__law_caught
  refine fx_ok Fh sc__law_caught rfl rfl hm (Fh.binds (ps := ["_law_which", "_law_one", "_law_other"]) fun _ _ _ _ _ _ us hl => match us, hl with | [_, _, _], _ => rfl) fun cdv A outer s H E en hr tk => ?_
  obtain ⟨C1, hC1, _⟩ := T.xf.ok "InvalidBook" ["part", "at"] (by decide)
  obtain ⟨cv, v, n1, _⟩ := (T.xf.at (c := "InvalidBook") (by decide +kernel) hC1).2.2 "ShareError" (by decide)
  refine b_cons (s_try1N (cv := cv) (ds := exH) rfl rfl sc__law_caught.nd rfl rfl ⟨rfl, by decide, n1⟩ (takesN tk) (fun a dx c fs ρ S hl ht => exH_at hl (exS_in ht).1) (fun c fs ρ S ht e ρ' S' => ?_) (fun c b cls ht hc => ?_) (fun ρ S e ρ' S' hl h => ?_)
    (fun W pn xe tkW _ => b_one (s_expr (e_callN (x__law_raise T) (hr.mono (by decide)) tkW (a_cons (e_var (i := 0)) (a_cons (e_var (i := 1)) (a_cons (e_var (i := 2)) a_nil))))))
    (fun a oe C dx c pn hC hz hd => b_ite fun hc => b_one (s_ret (e_tup (a_cons (e_isxT T.xf hc hC ⟨oe, List.mem_cons_self, hz.zc, hd⟩ (e_var (i := 3)) T.b_isinstance) (a_cons (e_callX (p := (a, oe)) (x__law_classes T) (hotS hz hd) List.mem_cons_self (roomH_mark (hr.mono (by decide)) _) hC hz.zc hd passF (a_cons (e_var (i := 3)) a_nil))
      (a_cons (e_callX (p := (a, oe)) (x__law_fields T) (hotS hz hd) List.mem_cons_self (roomH_mark (hr.mono (by decide)) _) hC hz.zc hd passF (a_cons (e_var (i := 3)) a_nil)) a_nil))))))
    (fun c cls ht hc => ?_)) (b_one (s_ret (e_const pe_non fun _ => .non)))
  · unfold exR2
    split <;> exact fun h => nomatch h
  · obtain ⟨hin, rfl⟩ := exS_in ht
    obtain ⟨p, m, e⟩ := List.any_eq_true.mp hin
    obtain rfl : p.1 = c := beq_iff_eq.mp e
    obtain ⟨C, q1, q2⟩ := T.xf.ok p.1 p.2 m
    cases hc.symm.trans q1
    obtain ⟨cv', v', n2, _, _, e2⟩ := q2.2.2.2 "ShareError" (by decide)
    obtain rfl := nameV_one n1 n2
    refine e2.trans ?_
    rcases inX_cases hin with h | h | h | h | h | h | h | h | h | h | h <;> rw [h] <;> simp
  · unfold dExp sb at h
    split at h
    · cases h
    · cases h; exact hl
    · cases h
  · obtain ⟨hin, _⟩ := exS_in ht
    obtain ⟨p, m, e⟩ := List.any_eq_true.mp hin
    obtain rfl : p.1 = c := beq_iff_eq.mp e
    obtain ⟨C, q1, q2⟩ := T.xf.ok p.1 p.2 m
    exact ⟨C, Option.some.inj (hc.symm.trans q1)⟩
def d_law : DF := dFn 1 8 ((dSeq (dAsg 1 (dCall d__law_start (dCons (dVar 0) dNil))) (dSeq (dLoc 1) (dSeq (dKill [2, 3, 4, 5, 6]) (dSeq (dFor (gNm 2) (iRg1 (dCons (dC (.int 11)) dNil)) (dSeq (dAsg 3 (dCall d__law_integer (dCons (dVar 1) dNil))) (dSeq (dAsg 4 (dCall d__law_integer (dCons (dVar 1) dNil))) (dSeq (dAsg 5 (dTup (dCons (dVar 3) dNil))) (dSeq (dIfS (dOr (dTst (dOp fEq (dVar 2) (dC (.int 0)))) (dOr (dTst (dOp fEq (dVar 2) (dC (.int 7)))) (dTst (dOp fEq (dVar 2) (dC (.int 9)))))) (dAsg 5 (dTup (dCons (dVar 3) (dCons (dVar 4) dNil)))) dSkip) (dSeq (dAsg 6 (dTup (dCons (dC (.bl true)) (dCons (dLc [7] (gNm 7) (iRg1 (dCons (dC (.int 11)) dNil)) dYes (dOp fEq (dVar 7) (dVar 2))) (dCons (dVar 5) dNil))))) (dSeq (dIfS (dNot (dTst (dCall (d__law_same 4) (dCons (dCall d__law_caught (dCons (dVar 2) (dCons (dVar 3) (dCons (dVar 4) dNil)))) (dCons (dVar 6) dNil))))) (dRet (dC (.bl false))) dSkip) (dSeq (dKill [2, 3, 4, 5, 6]) dSkip)))))))) (dRet (dC (.bl true))))))))
theorem sc_law : FnScope ["_law_script", "_law_state", "_law_which", "_law_one", "_law_other", "_law_fields_here", "_law_due", "_law_k"] ["_law_script"] (defScope s_law) := ⟨rfl, rfl, rfl, by decide +kernel, rfl, by decide +kernel, by decide +kernel⟩
theorem o_law (T : Tx K mg) {f : Addr} {fd : FuncData} (Fh : Fun K "law" "law" s_law f fd) : FnOk P w K mg base (L2.CX P w) 7 f fd ["_law_script"] (spD K mg 1 d_law) := by
  refine fn_ok Fh sc_law rfl rfl fun cdv A outer s H E en hr tk => ?_
  exact (b_cons (s_set (i := 1) sc_law.nd (e_call (x__law_start T) (hr.mono (by decide)) tk (a_cons (e_var (i := 0)) a_nil))) (b_loc (b_kill (b_cons (s_for (passes_of rfl) rfl (i_rng1 T.b_range (a_cons (e_const pe_int fun _ => .int _) a_nil)) (pg_name (i := 2) sc_law.nd rfl (by first | exact Or.inl rfl | exact Or.inr rfl)) (gok_name 2) fun L => (b_cons (s_set (i := 3) sc_law.nd (e_call (x__law_integer T) (hr.mono (by decide)) tk (a_cons (e_var (i := 1)) a_nil))) (b_cons (s_set (i := 4) sc_law.nd (e_call (x__law_integer T) (hr.mono (by decide)) tk (a_cons (e_var (i := 1)) a_nil))) (b_cons (s_set (i := 5) sc_law.nd (e_tup (a_cons (e_var (i := 3)) a_nil))) (b_cons (s_if (t_w (w_or (t_cmp (op_eqD hr.units) od_eq (e_var (i := 2)) (e_const pe_int fun _ => .int _)) (w_or (t_cmp (op_eqD hr.units) od_eq (e_var (i := 2)) (e_const pe_int fun _ => .int _)) (w_or1 (t_cmp (op_eqD hr.units) od_eq (e_var (i := 2)) (e_const pe_int fun _ => .int _)))))) (b_one (s_set (i := 5) sc_law.nd (e_tup (a_cons (e_var (i := 3)) (a_cons (e_var (i := 4)) a_nil))))) b_nil) (b_cons (s_set (i := 6) sc_law.nd (e_tup (a_cons (e_const pe_bl fun _ => .bl _) (a_cons (e_lc (own := [("_law_k", 7)]) fin_L rfl sc_law.nd (i_rng1 T.b_range (a_cons (e_const pe_int fun _ => .int _) a_nil)) rfl (fun _ _ _ _ _ => (pg_name (i := 7) sc_law.nd rfl (by first | exact Or.inl rfl | exact Or.inr rfl))) (gok_name 7) (.name (by decide)) (fun _ _ _ _ _ => pts_nil) tt_yes (fun _ _ _ _ _ => (e_cmp (op_eqD hr.units) od_eq (e_var (i := 7)) (e_var (i := 2))))) (a_cons (e_var (i := 5)) a_nil))))) (b_cons (s_if (t_not (t_val (e_call (x__law_same T 4) (hr.mono (by decide)) tk (a_cons (e_call (x__law_caught T) (hr.mono (by decide)) tk (a_cons (e_var (i := 2)) (a_cons (e_var (i := 3)) (a_cons (e_var (i := 4)) a_nil)))) (a_cons (e_var (i := 6)) a_nil))))) (b_one (s_ret (e_const pe_bl fun _ => .bl _))) b_nil) (b_kill b_nil)))))))) (b_one (s_ret (e_const pe_bl fun _ => .bl _)))))))
end
end Lw

set_option Elab.async false
set_option linter.all false
set_option maxRecDepth 100000
set_option maxHeartbeats 4000000
namespace Lw
open PySem L2 DL DX L2H
theorem e_pull : d__law_pull = dPull := rfl
theorem e_start : d__law_start = dStart := rfl
theorem e_big : d__law_big = dBig := rfl
theorem e_isint : d__law_is_int = dIsInt := rfl
theorem e_same : ∀ m, d__law_same m = dSame m
  | 0 => rfl
  | m + 1 => by
    unfold d__law_same dSame sameB
    rw [e_same m, e_isint]
theorem int_ok {S : Sto} {n : Nat} {ns : List D} {p b s : Int} (h : S[n]? = some (cellS ns p b s)) (ok : OkS ns p b s) :
    ∃ r p' b' s', d__law_integer [.loc n] S = .ok (.d (.int r)) (S.set n (cellS ns p' b' s')) ∧ OkS ns p' b' s' := by
  have hn : n < S.length := (List.getElem?_eq_some_iff.mp h).1
  obtain ⟨r, p1, b1, s1, e1, o1, r0, r1⟩ := pull_ok (many := 2) h ok (by decide) (by decide)
  rw [d__law_integer, dFn1, e_pull, e_big]
  by_cases c : r = 0
  · obtain ⟨r2, p2, b2, s2, e2, o2, _, _⟩ := pull_ok (many := 41) (S := S.set n (cellS ns p1 b1 s1)) (List.getElem?_set_self hn) o1 (by decide) (by decide)
    rw [List.set_set] at e2
    refine ⟨r2 - 20, p2, b2, s2, ?_, o2⟩
    simp [e1, c, e2, fSub]
  · have hmul : fMul (.int 2) (.int (10 ^ 40)) = some (.int (2 * 10 ^ 40)) := fmul_lt (a := 2) (b := 200) (by decide) (by decide) (by decide) (by decide) (by decide)
    have hpow : fPow (.int 10) (.int 40) = some (.int (10 ^ 40)) := by simp [fPow]
    obtain ⟨r2, p2, b2, s2, e2, o2, _, _⟩ := big_ok (many := 2 * 10 ^ 40 - 1) (S := S.set n (cellS ns p1 b1 s1)) (List.getElem?_set_self hn) o1 (by decide)
    rw [List.set_set] at e2
    refine ⟨r2 - 10 ^ 40 + 1, p2, b2, s2, ?_, o2⟩
    simp only [List.replicate, v_dSeq, v_dIfS, v_dTst, v_dOp, v_dCall, v_dCons, v_dVar, List.getElem?_cons_zero, stab_l, ob_ok, v_dC, v_dNil, v_ap, List.all_cons, List.all_nil, v_isStab_l, v_isStab_d, Bool.and_self, if_true, e1, v_ap2, eq_int, c, decide_false, v_tst, sb_ok, Bool.false_eq_true, if_false, v_skip, q_nx, v_dRet, hpow, hmul, fSub, e2, fAdd, outOf_rt]
def clsOf : Nat → Str
  | 0 => "InvalidBook" | 1 => "InvalidBound" | 2 => "InvalidCall" | 3 => "InvalidFraction" | 4 => "InvalidHold" | 5 => "InvalidRow" | 6 => "InvalidStanding" | 7 => "InvalidText" | 8 => "LimitExceeded" | 9 => "NoLimit" | _ => "NotPlain"
def fldOf (a b : Int) (i : Nat) : D := if i = 0 ∨ i = 7 ∨ i = 9 then .tup [.int a, .int b] else .tup [.int a]
def boolsOf (i : Nat) : List D := (List.range 11).map fun k => .bl (decide (k = i))
@[simp] theorem v_dRaise (c fs a) (ρ : Ev) (S : Sto) : dRaise c fs a ρ S = sb (a ρ S) ρ (raiseK c fs ρ) := (rfl)
theorem raise_0 (a b : Int) (S : Sto) : d__law_raise [.d (.int 0), .d (.int a), .d (.int b)] S = .ex ⟨"InvalidBook", [("at", .int b), ("part", .int a)]⟩ S := by
  rw [d__law_raise, dFn3]
  simp [raiseK, exnOf, mkTup]
theorem fld_0 (a b : Int) : fldV "InvalidBook" [("at", .int b), ("part", .int a)] = some (fldOf a b 0) := by
  have q : (("part" : Str) == "at") = false := by decide +kernel
  simp [q, fldV, tup1, tup2, fldOf, List.lookup]
theorem raise_1 (a b : Int) (S : Sto) : d__law_raise [.d (.int 1), .d (.int a), .d (.int b)] S = .ex ⟨"InvalidBound", [("name", .int a)]⟩ S := by
  rw [d__law_raise, dFn3]
  simp [raiseK, exnOf, mkTup]
theorem fld_1 (a b : Int) : fldV "InvalidBound" [("name", .int a)] = some (fldOf a b 1) := by
  simp [fldV, tup1, tup2, fldOf, List.lookup]
theorem raise_2 (a b : Int) (S : Sto) : d__law_raise [.d (.int 2), .d (.int a), .d (.int b)] S = .ex ⟨"InvalidCall", [("call", .int a)]⟩ S := by
  rw [d__law_raise, dFn3]
  simp [raiseK, exnOf, mkTup]
theorem fld_2 (a b : Int) : fldV "InvalidCall" [("call", .int a)] = some (fldOf a b 2) := by
  simp [fldV, tup1, tup2, fldOf, List.lookup]
theorem raise_3 (a b : Int) (S : Sto) : d__law_raise [.d (.int 3), .d (.int a), .d (.int b)] S = .ex ⟨"InvalidFraction", [("name", .int a)]⟩ S := by
  rw [d__law_raise, dFn3]
  simp [raiseK, exnOf, mkTup]
theorem fld_3 (a b : Int) : fldV "InvalidFraction" [("name", .int a)] = some (fldOf a b 3) := by
  simp [fldV, tup1, tup2, fldOf, List.lookup]
theorem raise_4 (a b : Int) (S : Sto) : d__law_raise [.d (.int 4), .d (.int a), .d (.int b)] S = .ex ⟨"InvalidHold", [("part", .int a)]⟩ S := by
  rw [d__law_raise, dFn3]
  simp [raiseK, exnOf, mkTup]
theorem fld_4 (a b : Int) : fldV "InvalidHold" [("part", .int a)] = some (fldOf a b 4) := by
  simp [fldV, tup1, tup2, fldOf, List.lookup]
theorem raise_5 (a b : Int) (S : Sto) : d__law_raise [.d (.int 5), .d (.int a), .d (.int b)] S = .ex ⟨"InvalidRow", [("at", .int a)]⟩ S := by
  rw [d__law_raise, dFn3]
  simp [raiseK, exnOf, mkTup]
theorem fld_5 (a b : Int) : fldV "InvalidRow" [("at", .int a)] = some (fldOf a b 5) := by
  simp [fldV, tup1, tup2, fldOf, List.lookup]
theorem raise_6 (a b : Int) (S : Sto) : d__law_raise [.d (.int 6), .d (.int a), .d (.int b)] S = .ex ⟨"InvalidStanding", [("at", .int a)]⟩ S := by
  rw [d__law_raise, dFn3]
  simp [raiseK, exnOf, mkTup]
theorem fld_6 (a b : Int) : fldV "InvalidStanding" [("at", .int a)] = some (fldOf a b 6) := by
  simp [fldV, tup1, tup2, fldOf, List.lookup]
theorem raise_7 (a b : Int) (S : Sto) : d__law_raise [.d (.int 7), .d (.int a), .d (.int b)] S = .ex ⟨"InvalidText", [("word", .int b), ("line", .int a)]⟩ S := by
  rw [d__law_raise, dFn3]
  simp [raiseK, exnOf, mkTup]
theorem fld_7 (a b : Int) : fldV "InvalidText" [("word", .int b), ("line", .int a)] = some (fldOf a b 7) := by
  have q : (("line" : Str) == "word") = false := by decide +kernel
  simp [q, fldV, tup1, tup2, fldOf, List.lookup]
theorem raise_8 (a b : Int) (S : Sto) : d__law_raise [.d (.int 8), .d (.int a), .d (.int b)] S = .ex ⟨"LimitExceeded", [("limit", .int a)]⟩ S := by
  rw [d__law_raise, dFn3]
  simp [raiseK, exnOf, mkTup]
theorem fld_8 (a b : Int) : fldV "LimitExceeded" [("limit", .int a)] = some (fldOf a b 8) := by
  simp [fldV, tup1, tup2, fldOf, List.lookup]
theorem raise_9 (a b : Int) (S : Sto) : d__law_raise [.d (.int 9), .d (.int a), .d (.int b)] S = .ex ⟨"NoLimit", [("pair", .tup [.int a, .int b])]⟩ S := by
  rw [d__law_raise, dFn3]
  simp [raiseK, exnOf, mkTup]
theorem fld_9 (a b : Int) : fldV "NoLimit" [("pair", .tup [.int a, .int b])] = some (fldOf a b 9) := by
  simp [fldV, tup1, tup2, fldOf, List.lookup]
theorem raise_10 (a b : Int) (S : Sto) : d__law_raise [.d (.int 10), .d (.int a), .d (.int b)] S = .ex ⟨"NotPlain", [("found", .int a)]⟩ S := by
  rw [d__law_raise, dFn3]
  simp [raiseK, exnOf, mkTup]
theorem fld_10 (a b : Int) : fldV "NotPlain" [("found", .int a)] = some (fldOf a b 10) := by
  simp [fldV, tup1, tup2, fldOf, List.lookup]
theorem caught_ev {i : Nat} {x : D} {a b : Int} {S : Sto} {e : Exn} {z : D} (hr : d__law_raise [.d x, .d (.int a), .d (.int b)] S = .ex e S) (hc : inX exL e.cls = true) (hf : fldV e.cls e.fs = some z) : d__law_caught [.d x, .d (.int a), .d (.int b)] S = .ok (.d (.tup [.bl true, .lst (clsL e.cls), z])) S := by
  rw [d__law_caught, dFn3]
  have e1 : dExp (dCall d__law_raise (dCons (dVar 0) (dCons (dVar 1) (dCons (dVar 2) dNil)))) [some (.d x), some (.d (.int a)), some (.d (.int b)), none] S = .ex e [some (.d x), some (.d (.int a)), some (.d (.int b)), none] S := by
    simp [hr]
  have e2 : exS e.cls = some true := by unfold exS; rw [if_pos hc]
  show outOf ((dTry1 exS 3 _ exR2 [some (.d x), some (.d (.int a)), some (.d (.int b)), none] S).seq _) = _
  rw [dTry1, e1]
  simp only [e2, exR2, hf, SOut.un, q_rt, outOf_rt]
theorem caught_ok {i : Nat} {a b : Int} {S : Sto} (h : i < 11) : d__law_caught [.d (.int i), .d (.int a), .d (.int b)] S = .ok (.d (.tup [.bl true, .lst (boolsOf i), fldOf a b i])) S := by
  match i, h with
  | 0, _ =>
    refine (caught_ev (i := 0) (raise_0 a b S) (inX_2) (fld_0 a b)).trans ?_
    simp [clsL, boolsOf, List.range, List.range.loop]
  | 1, _ =>
    refine (caught_ev (i := 1) (raise_1 a b S) (inX_1) (fld_1 a b)).trans ?_
    simp [clsL, boolsOf, List.range, List.range.loop]
  | 2, _ =>
    refine (caught_ev (i := 2) (raise_2 a b S) (inX_7) (fld_2 a b)).trans ?_
    simp [clsL, boolsOf, List.range, List.range.loop]
  | 3, _ =>
    refine (caught_ev (i := 3) (raise_3 a b S) (inX_0) (fld_3 a b)).trans ?_
    simp [clsL, boolsOf, List.range, List.range.loop]
  | 4, _ =>
    refine (caught_ev (i := 4) (raise_4 a b S) (inX_5) (fld_4 a b)).trans ?_
    simp [clsL, boolsOf, List.range, List.range.loop]
  | 5, _ =>
    refine (caught_ev (i := 5) (raise_5 a b S) (inX_4) (fld_5 a b)).trans ?_
    simp [clsL, boolsOf, List.range, List.range.loop]
  | 6, _ =>
    refine (caught_ev (i := 6) (raise_6 a b S) (inX_3) (fld_6 a b)).trans ?_
    simp [clsL, boolsOf, List.range, List.range.loop]
  | 7, _ =>
    refine (caught_ev (i := 7) (raise_7 a b S) (inX_6) (fld_7 a b)).trans ?_
    simp [clsL, boolsOf, List.range, List.range.loop]
  | 8, _ =>
    refine (caught_ev (i := 8) (raise_8 a b S) (inX_10) (fld_8 a b)).trans ?_
    simp [clsL, boolsOf, List.range, List.range.loop]
  | 9, _ =>
    refine (caught_ev (i := 9) (raise_9 a b S) (inX_8) (fld_9 a b)).trans ?_
    simp [clsL, boolsOf, List.range, List.range.loop]
  | 10, _ =>
    refine (caught_ev (i := 10) (raise_10 a b S) (inX_9) (fld_10 a b)).trans ?_
    simp [clsL, boolsOf, List.range, List.range.loop]
theorem same_ok {i : Nat} {a b : Int} {S : Sto} (h : i < 11) : d__law_same 4 [.d (.tup [.bl true, .lst (boolsOf i), fldOf a b i]), .d (.tup [.bl true, .lst (boolsOf i), fldOf a b i])] S = .ok (.d (.bl true)) S := by
  rw [e_same]
  refine same_refl 4 _ S ?_
  have hb : smL 2 (boolsOf i) = true := by
    have : ∀ l : List Nat, smL 2 (l.map fun k => D.bl (decide (k = i))) = true := by
      intro l
      induction l with
      | nil => rfl
      | cons x r ih => rw [List.map, smL, ih]; rfl
    exact this _
  have hl : (boolsOf i).length = 11 := by simp [boolsOf]
  have hf : smD 3 (fldOf a b i) = true := by
    unfold fldOf
    split <;> simp [smD, smL]
  simp [smD, smL, hb, hl, hf]
def tlB : DS := (dSeq (dAsg 6 (dTup (dCons (dC (.bl true)) (dCons (dLc [7] (gNm 7) (iRg1 (dCons (dC (.int 11)) dNil)) dYes (dOp fEq (dVar 7) (dVar 2))) (dCons (dVar 5) dNil))))) (dSeq (dIfS (dNot (dTst (dCall (d__law_same 4) (dCons (dCall d__law_caught (dCons (dVar 2) (dCons (dVar 3) (dCons (dVar 4) dNil)))) (dCons (dVar 6) dNil))))) (dRet (dC (.bl false))) dSkip) (dSeq (dKill [2, 3, 4, 5, 6]) dSkip)))
theorem law_k03 (ns : List D) (hi : ∀ x ∈ ns, ∃ i, x = D.int i) : ∃ S, d_law [.d (.frz ns)] [] = .ok (.d (.bl true)) S := by
  let bd : DS := (dSeq (dAsg 3 (dCall d__law_integer (dCons (dVar 1) dNil))) (dSeq (dAsg 4 (dCall d__law_integer (dCons (dVar 1) dNil))) (dSeq (dAsg 5 (dTup (dCons (dVar 3) dNil))) (dSeq (dIfS (dOr (dTst (dOp fEq (dVar 2) (dC (.int 0)))) (dOr (dTst (dOp fEq (dVar 2) (dC (.int 7)))) (dTst (dOp fEq (dVar 2) (dC (.int 9)))))) (dAsg 5 (dTup (dCons (dVar 3) (dCons (dVar 4) dNil)))) dSkip) tlB))))
  obtain ⟨ρ', S', e, _⟩ := loop_inv (g := gNm 2) (body := bd) (fun ρ S => ∃ v0 p b s, ρ = [v0, some (.loc 0), none, none, none, none, none, none] ∧ S = [cellS ns p b s] ∧ OkS ns p b s) (xs := rngD 0 11) (ρ := [some (.d (.frz ns)), some (.loc 0), none, none, none, none, none, none]) (S := [cellS ns 0 0 1234577])
    ⟨_, 0, 0, 1234577, rfl, rfl, ⟨hi, by decide, by decide, by decide, by decide⟩⟩ (fun x hx ρ S hI => by
      obtain ⟨v0, p, b, s, rfl, rfl, ok⟩ := hI
      obtain ⟨j, hj, rfl⟩ := List.mem_map.mp hx
      have hj : j < 11 := List.mem_range.mp hj
      obtain ⟨a, p1, b1, s1, e1, o1⟩ := int_ok (n := 0) (S := [cellS ns p b s]) rfl ok
      obtain ⟨c, p2, b2, s2, e2, o2⟩ := int_ok (n := 0) (S := [cellS ns p1 b1 s1]) rfl o1
      simp only [List.set_cons_zero] at e1 e2
      refine ⟨_, [v0, some (.loc 0), none, none, none, none, none, none], [cellS ns p2 b2 s2], rfl, .inl ?_, v0, p2, b2, s2, rfl, rfl, o2⟩
      have hz : (0 : Int) + (j : Int) = j := by omega
      have lc : ∀ y5, dLc [7] (gNm 7) (iRg1 (dCons (dC (.int 11)) dNil)) dYes (dOp fEq (dVar 7) (dVar 2)) [v0, some (.loc 0), some (.d (.int j)), some (.d (.int a)), some (.d (.int c)), some y5, none, none] [cellS ns p2 b2 s2] = .ok (.d (.lst (boolsOf j))) [cellS ns p2 b2 s2] := by
        intro y5
        have := lc_f (vs := [7]) (g := gNm 7) (di := iRg1 (dCons (dC (.int 11)) dNil)) (t := dYes) (e := dOp fEq (dVar 7) (dVar 2)) (f := fun x => match x with
          | .int k => .bl (decide (k = (j : Int)))
          | _ => .non) (c := fun _ => true) (ρ := [v0, some (.loc 0), some (.d (.int j)), some (.d (.int a)), some (.d (.int c)), some y5, none, none]) (S := [cellS ns p2 b2 s2]) (S0 := [cellS ns p2 b2 s2]) (xs := rngD 0 11) rfl (by decide) (fun x hx => by
            obtain ⟨k, hk, rfl⟩ := List.mem_map.mp hx
            exact ⟨_, rfl, rfl, fun _ => by simp⟩)
        rw [this]
        have e3 : (List.map (fun x => (match x with
          | .int k => .bl (decide (k = (j : Int)))
          | _ => .non : D)) (List.filter (fun _ => true) (rngD 0 11))) = boolsOf j := by
          rw [List.filter_eq_self.mpr fun _ _ => rfl, rngD, List.map_map, boolsOf]
          refine List.map_congr_left fun k _ => ?_
          show D.bl _ = D.bl _
          congr 1
          simp only [decide_eq_decide]
          omega
        rw [e3]
      have fo : fldOf a c j = if j = 0 ∨ j = 7 ∨ j = 9 then .tup [.int a, .int c] else .tup [.int a] := rfl
      have sm := same_ok (a := a) (b := c) (S := [cellS ns p2 b2 s2]) hj
      have ca := caught_ok (a := a) (b := c) (S := [cellS ns p2 b2 s2]) hj
      have step : ∀ y5, y5 = fldOf a c j → tlB
          [v0, some (.loc 0), some (.d (.int j)), some (.d (.int a)), some (.d (.int c)), some (.d y5), none, none] [cellS ns p2 b2 s2] = .nx [v0, some (.loc 0), none, none, none, none, none, none] [cellS ns p2 b2 s2] := by
        intro y5 h5
        subst h5
        simp only [tlB, v_dSeq, v_dAsg, v_dTup, v_dCons, v_dC, ob_ok, lc, v_dVar, List.getElem?_cons_succ, List.getElem?_cons_zero, stab_d, v_dNil, mkTup, v_ers, v_ers0, List.length_cons, List.length_nil, Nat.reduceAdd, Nat.reduceLeDiff, if_true, sb_ok, q_nx, List.set_cons_succ, List.set_cons_zero, v_dIfS, v_dNot, v_dTst, v_dCall, v_ap, List.all_cons, List.all_nil, v_isStab_d, Bool.and_self, ca, sm, v_tst, Bool.not_true, Bool.false_eq_true, if_false, v_skip, v_dKill, v_kill, v_kill0]
      show bd [v0, some (.loc 0), some (.d (.int ((0 : Int) + (j : Int)))), none, none, none, none, none] [cellS ns p b s] = _
      rw [hz]
      show (dSeq _ _) _ _ = _
      have t0 : ∀ k : Nat, decide ((j : Int) = (k : Int)) = decide (j = k) := fun k => by simp only [decide_eq_decide]; omega
      have t00 := t0 0
      have t07 := t0 7
      have t09 := t0 9
      by_cases hf : j = 0 ∨ j = 7 ∨ j = 9
      · have h5 : D.tup [.int a, .int c] = fldOf a c j := by rw [fo, if_pos hf]
        have key := step _ h5
        have q : dOr (dTst (dOp fEq (dVar 2) (dC (.int 0)))) (dOr (dTst (dOp fEq (dVar 2) (dC (.int 7)))) (dTst (dOp fEq (dVar 2) (dC (.int 9))))) [v0, some (.loc 0), some (.d (.int j)), some (.d (.int a)), some (.d (.int c)), some (.d (.tup [.int a])), none, none] [cellS ns p2 b2 s2] = .ok true [cellS ns p2 b2 s2] := by
          rcases hf with rfl | rfl | rfl <;> simp
        simp only [v_dSeq, v_dAsg, v_dCall, v_dCons, v_dVar, List.getElem?_cons_succ, List.getElem?_cons_zero, stab_l, stab_d, ob_ok, v_dNil, v_ap, List.all_cons, List.all_nil, v_isStab_l, v_isStab_d, Bool.and_self, if_true, e1, e2, sb_ok, q_nx, List.set_cons_succ, List.set_cons_zero, v_dTup, mkTup, v_ers, v_ers0, List.length_cons, List.length_nil, Nat.reduceAdd, Nat.reduceLeDiff, v_dIfS, q]
        exact key
      · have h5 : D.tup [.int a] = fldOf a c j := by rw [fo, if_neg hf]
        have key := step _ h5
        have q : dOr (dTst (dOp fEq (dVar 2) (dC (.int 0)))) (dOr (dTst (dOp fEq (dVar 2) (dC (.int 7)))) (dTst (dOp fEq (dVar 2) (dC (.int 9))))) [v0, some (.loc 0), some (.d (.int j)), some (.d (.int a)), some (.d (.int c)), some (.d (.tup [.int a])), none, none] [cellS ns p2 b2 s2] = .ok false [cellS ns p2 b2 s2] := by
          have n0 : ¬ (j : Int) = 0 := by omega
          have n7 : ¬ (j : Int) = 7 := by omega
          have n9 : ¬ (j : Int) = 9 := by omega
          have m0 : ¬ j = 0 := by omega
          have m7 : ¬ j = 7 := by omega
          have m9 : ¬ j = 9 := by omega
          simp [n0, n7, n9, m0, m7, m9]
        simp only [v_dSeq, v_dAsg, v_dCall, v_dCons, v_dVar, List.getElem?_cons_succ, List.getElem?_cons_zero, stab_l, stab_d, ob_ok, v_dNil, v_ap, List.all_cons, List.all_nil, v_isStab_l, v_isStab_d, Bool.and_self, if_true, e1, e2, sb_ok, q_nx, List.set_cons_succ, List.set_cons_zero, v_dTup, mkTup, v_ers, v_ers0, List.length_cons, List.length_nil, Nat.reduceAdd, Nat.reduceLeDiff, v_dIfS, q, Bool.false_eq_true, if_false, v_skip]
        exact key)
  refine ⟨S', ?_⟩
  rw [d_law, dFn1]
  have st : d__law_start [.d (.frz ns)] [] = .ok (.own [.d (.lst ns), .d (.int 0), .d (.int 0), .d (.int 1234577)]) [] := by
    rw [d__law_start, dFn1]
    simp [fList, mkOwn]
  have hr : rng1 [.d (.int 11)] [cellS ns 0 0 1234577] = .ok (rngD 0 11) [cellS ns 0 0 1234577] := rfl
  have lo : dLoc 1 [some (.d (.frz ns)), some (.own [.d (.lst ns), .d (.int 0), .d (.int 0), .d (.int 1234577)]), none, none, none, none, none, none] [] = .nx [some (.d (.frz ns)), some (.loc 0), none, none, none, none, none, none] [cellS ns 0 0 1234577] := rfl
  simp only [List.replicate, Nat.reduceSub, v_dSeq, v_dAsg, v_dCall, v_dCons, v_dVar, List.getElem?_cons_zero, stab_d, ob_ok, v_dNil, v_ap, List.all_cons, List.all_nil, v_isStab_d, Bool.and_self, if_true, st, sb_ok, List.set_cons_succ, List.set_cons_zero, q_nx, lo, v_dKill, v_kill, v_kill0, v_dFor, v_iRg1, v_dC, hr]
  exact (congrArg (fun z => outOf (SOut.seq z _)) e).trans rfl
end Lw

set_option Elab.async false
set_option linter.all false
set_option maxRecDepth 100000
set_option maxHeartbeats 0
namespace Lw
open PySem L2 DL DX
def D__law_start : He.DefD := ⟨("_law_start", none), "_law_start", "_law_start", defArgs s__law_start, defBody s__law_start, defScope s__law_start, [], []⟩
def D__law_pull : He.DefD := ⟨("_law_pull", none), "_law_pull", "_law_pull", defArgs s__law_pull, defBody s__law_pull, defScope s__law_pull, [], []⟩
def D__law_big : He.DefD := ⟨("_law_big", none), "_law_big", "_law_big", defArgs s__law_big, defBody s__law_big, defScope s__law_big, [], []⟩
def D__law_integer : He.DefD := ⟨("_law_integer", none), "_law_integer", "_law_integer", defArgs s__law_integer, defBody s__law_integer, defScope s__law_integer, [], []⟩
def D__law_is_int : He.DefD := ⟨("_law_is_int", none), "_law_is_int", "_law_is_int", defArgs s__law_is_int, defBody s__law_is_int, defScope s__law_is_int, [], []⟩
def D__law_same : He.DefD := ⟨("_law_same", none), "_law_same", "_law_same", defArgs s__law_same, defBody s__law_same, defScope s__law_same, [], []⟩
def D__law_raise : He.DefD := ⟨("_law_raise", none), "_law_raise", "_law_raise", defArgs s__law_raise, defBody s__law_raise, defScope s__law_raise, [], []⟩
def D__law_classes : He.DefD := ⟨("_law_classes", none), "_law_classes", "_law_classes", defArgs s__law_classes, defBody s__law_classes, defScope s__law_classes, [], []⟩
def D__law_fields : He.DefD := ⟨("_law_fields", none), "_law_fields", "_law_fields", defArgs s__law_fields, defBody s__law_fields, defScope s__law_fields, [], []⟩
def D__law_caught : He.DefD := ⟨("_law_caught", none), "_law_caught", "_law_caught", defArgs s__law_caught, defBody s__law_caught, defScope s__law_caught, [], []⟩
def D_law : He.DefD := ⟨("law", none), "law", "law", defArgs s_law, defBody s_law, defScope s_law, [], []⟩
def Di_InvalidBook : He.DefD := ⟨("InvalidBook", some "__init__"), "__init__", "InvalidBook.__init__", defArgs i_InvalidBook, defBody i_InvalidBook, defScope i_InvalidBook, [], []⟩
def Di_InvalidBound : He.DefD := ⟨("InvalidBound", some "__init__"), "__init__", "InvalidBound.__init__", defArgs i_InvalidBound, defBody i_InvalidBound, defScope i_InvalidBound, [], []⟩
def Di_InvalidCall : He.DefD := ⟨("InvalidCall", some "__init__"), "__init__", "InvalidCall.__init__", defArgs i_InvalidCall, defBody i_InvalidCall, defScope i_InvalidCall, [], []⟩
def Di_InvalidFraction : He.DefD := ⟨("InvalidFraction", some "__init__"), "__init__", "InvalidFraction.__init__", defArgs i_InvalidFraction, defBody i_InvalidFraction, defScope i_InvalidFraction, [], []⟩
def Di_InvalidHold : He.DefD := ⟨("InvalidHold", some "__init__"), "__init__", "InvalidHold.__init__", defArgs i_InvalidHold, defBody i_InvalidHold, defScope i_InvalidHold, [], []⟩
def Di_InvalidRow : He.DefD := ⟨("InvalidRow", some "__init__"), "__init__", "InvalidRow.__init__", defArgs i_InvalidRow, defBody i_InvalidRow, defScope i_InvalidRow, [], []⟩
def Di_InvalidStanding : He.DefD := ⟨("InvalidStanding", some "__init__"), "__init__", "InvalidStanding.__init__", defArgs i_InvalidStanding, defBody i_InvalidStanding, defScope i_InvalidStanding, [], []⟩
def Di_InvalidText : He.DefD := ⟨("InvalidText", some "__init__"), "__init__", "InvalidText.__init__", defArgs i_InvalidText, defBody i_InvalidText, defScope i_InvalidText, [], []⟩
def Di_LimitExceeded : He.DefD := ⟨("LimitExceeded", some "__init__"), "__init__", "LimitExceeded.__init__", defArgs i_LimitExceeded, defBody i_LimitExceeded, defScope i_LimitExceeded, [], []⟩
def Di_NoLimit : He.DefD := ⟨("NoLimit", some "__init__"), "__init__", "NoLimit.__init__", defArgs i_NoLimit, defBody i_NoLimit, defScope i_NoLimit, [], []⟩
def Di_NotPlain : He.DefD := ⟨("NotPlain", some "__init__"), "__init__", "NotPlain.__init__", defArgs i_NotPlain, defBody i_NotPlain, defScope i_NotPlain, [], []⟩
def hfn : List He.DefD := [D__law_start, D__law_pull, D__law_big, D__law_integer, D__law_is_int, D__law_same, D__law_raise, D__law_classes, D__law_fields, D__law_caught, D_law, Di_InvalidBook, Di_InvalidBound, Di_InvalidCall, Di_InvalidFraction, Di_InvalidHold, Di_InvalidRow, Di_InvalidStanding, Di_InvalidText, Di_LimitExceeded, Di_NoLimit, Di_NotPlain]
def hfa : List He.Fa := [.glo "_law_start", .glo "_law_pull", .glo "_law_big", .glo "_law_integer", .glo "_law_is_int", .glo "_law_same", .glo "_law_raise", .glo "_law_classes", .glo "_law_fields", .glo "_law_caught", .glo "law", .glo "ShareError", .glo "InvalidFraction", .glo "InvalidBound", .glo "InvalidBook", .glo "InvalidStanding", .glo "InvalidRow", .glo "InvalidHold", .glo "InvalidText", .glo "InvalidCall", .glo "NoLimit", .glo "NotPlain", .glo "LimitExceeded", .free "bool", .free "int", .free "isinstance", .free "len", .free "list", .free "range", .free "str", .free "tuple", .free "ArithmeticError"]
def hex (K : PySem.W.Frag) : Bool := xfOk K exL exF exT
abbrev R : PySem.W.OpenRow := PySem.W.OpenLaw.row PySem.Challenge.rw_pageshares_k03_errors_and_their_fields
abbrev hk : PySem.W.Hook := He.hookX 4 hfa hfn [] [] hex
def hob (s : PySem.W.SharedT) : He.AlX := He.obsX 4 hfa hfn [] [] hex (HandSHeadRun.getT s)
theorem hob_eq (s : PySem.W.SharedT) : hob s = hk.obs s.abs := He.obsX_eq (HandSHeadRun.getT_eq s)
def loose : List Str := ["ShareError", "InvalidFraction", "InvalidBound", "InvalidBook", "InvalidStanding", "InvalidRow", "InvalidHold", "InvalidText", "InvalidCall", "NoLimit", "NotPlain", "LimitExceeded", "_law_is_int", "_law_same", "_law_start", "_law_pull", "_law_big", "_law_integer", "_law_raise", "_law_classes", "_law_fields", "_law_caught"]
theorem run (w : World) : HandSHeadRun.RunEq R (PySem.W.view R.prog [24]) hk hob 9000 loose w := by
  intro os
  kernel_rfl
theorem fun_of {K : PySem.W.Frag} {x qual : Str} {st : Stmt} {f : Addr} {fd : FuncData} (h : FunD K x qual (defArgs st) (defBody st) (defScope st) [] [] f fd) : Fun K x qual st f fd := by
  obtain ⟨⟨oc, od, dV, kV, doc, pm, an, cdv, ct, osl, h1, h2, h3, h4, h5⟩, kp⟩ := h
  rcases h4 with ⟨_, rfl⟩ | ⟨z, _⟩
  · exact ⟨⟨oc, od, kV, doc, pm, an, cdv, ct, osl, h1, h2, h3⟩, kp⟩
  · exact absurd rfl z
theorem tx {K : PySem.W.Frag} {h : Heap} {mg : Str → Option Value} {w : World} (X : K.In h) (G : h.Ns mainGlobals mg) (c : He.SaysX hfa hfn [] [] hex w h K) : Tx K mg where
  f__law_start := by
    obtain ⟨fd, FD⟩ := c.t.d.def_ 0 (d := D__law_start) rfl
    exact ⟨_, fd, fun_of FD, He.glo_ok X G (c.t.d.fact 0 (f := .glo "_law_start") rfl)⟩
  f__law_pull := by
    obtain ⟨fd, FD⟩ := c.t.d.def_ 1 (d := D__law_pull) rfl
    exact ⟨_, fd, fun_of FD, He.glo_ok X G (c.t.d.fact 1 (f := .glo "_law_pull") rfl)⟩
  f__law_big := by
    obtain ⟨fd, FD⟩ := c.t.d.def_ 2 (d := D__law_big) rfl
    exact ⟨_, fd, fun_of FD, He.glo_ok X G (c.t.d.fact 2 (f := .glo "_law_big") rfl)⟩
  f__law_integer := by
    obtain ⟨fd, FD⟩ := c.t.d.def_ 3 (d := D__law_integer) rfl
    exact ⟨_, fd, fun_of FD, He.glo_ok X G (c.t.d.fact 3 (f := .glo "_law_integer") rfl)⟩
  f__law_is_int := by
    obtain ⟨fd, FD⟩ := c.t.d.def_ 4 (d := D__law_is_int) rfl
    exact ⟨_, fd, fun_of FD, He.glo_ok X G (c.t.d.fact 4 (f := .glo "_law_is_int") rfl)⟩
  f__law_same := by
    obtain ⟨fd, FD⟩ := c.t.d.def_ 5 (d := D__law_same) rfl
    exact ⟨_, fd, fun_of FD, He.glo_ok X G (c.t.d.fact 5 (f := .glo "_law_same") rfl)⟩
  f__law_raise := by
    obtain ⟨fd, FD⟩ := c.t.d.def_ 6 (d := D__law_raise) rfl
    exact ⟨_, fd, fun_of FD, He.glo_ok X G (c.t.d.fact 6 (f := .glo "_law_raise") rfl)⟩
  f__law_classes := by
    obtain ⟨fd, FD⟩ := c.t.d.def_ 7 (d := D__law_classes) rfl
    exact ⟨_, fd, fun_of FD, He.glo_ok X G (c.t.d.fact 7 (f := .glo "_law_classes") rfl)⟩
  f__law_fields := by
    obtain ⟨fd, FD⟩ := c.t.d.def_ 8 (d := D__law_fields) rfl
    exact ⟨_, fd, fun_of FD, He.glo_ok X G (c.t.d.fact 8 (f := .glo "_law_fields") rfl)⟩
  f__law_caught := by
    obtain ⟨fd, FD⟩ := c.t.d.def_ 9 (d := D__law_caught) rfl
    exact ⟨_, fd, fun_of FD, He.glo_ok X G (c.t.d.fact 9 (f := .glo "_law_caught") rfl)⟩
  f_law := by
    obtain ⟨fd, FD⟩ := c.t.d.def_ 10 (d := D_law) rfl
    exact ⟨_, fd, fun_of FD, He.glo_ok X G (c.t.d.fact 10 (f := .glo "law") rfl)⟩
  b_bool := He.free_ok X G (c.t.d.fact 23 (f := .free "bool") rfl)
  b_int := He.free_ok X G (c.t.d.fact 24 (f := .free "int") rfl)
  b_isinstance := He.free_ok X G (c.t.d.fact 25 (f := .free "isinstance") rfl)
  b_len := He.free_ok X G (c.t.d.fact 26 (f := .free "len") rfl)
  b_list := He.free_ok X G (c.t.d.fact 27 (f := .free "list") rfl)
  b_range := He.free_ok X G (c.t.d.fact 28 (f := .free "range") rfl)
  b_str := He.free_ok X G (c.t.d.fact 29 (f := .free "str") rfl)
  b_tuple := He.free_ok X G (c.t.d.fact 30 (f := .free "tuple") rfl)
  i_InvalidBook := by
    obtain ⟨fd, FD⟩ := c.t.d.def_ 11 (d := Di_InvalidBook) rfl
    exact ⟨_, fd, fun_of FD, He.glo_ok X G (c.t.d.fact 14 (f := .glo "InvalidBook") rfl), rfl⟩
  i_InvalidBound := by
    obtain ⟨fd, FD⟩ := c.t.d.def_ 12 (d := Di_InvalidBound) rfl
    exact ⟨_, fd, fun_of FD, He.glo_ok X G (c.t.d.fact 13 (f := .glo "InvalidBound") rfl), rfl⟩
  i_InvalidCall := by
    obtain ⟨fd, FD⟩ := c.t.d.def_ 13 (d := Di_InvalidCall) rfl
    exact ⟨_, fd, fun_of FD, He.glo_ok X G (c.t.d.fact 19 (f := .glo "InvalidCall") rfl), rfl⟩
  i_InvalidFraction := by
    obtain ⟨fd, FD⟩ := c.t.d.def_ 14 (d := Di_InvalidFraction) rfl
    exact ⟨_, fd, fun_of FD, He.glo_ok X G (c.t.d.fact 12 (f := .glo "InvalidFraction") rfl), rfl⟩
  i_InvalidHold := by
    obtain ⟨fd, FD⟩ := c.t.d.def_ 15 (d := Di_InvalidHold) rfl
    exact ⟨_, fd, fun_of FD, He.glo_ok X G (c.t.d.fact 17 (f := .glo "InvalidHold") rfl), rfl⟩
  i_InvalidRow := by
    obtain ⟨fd, FD⟩ := c.t.d.def_ 16 (d := Di_InvalidRow) rfl
    exact ⟨_, fd, fun_of FD, He.glo_ok X G (c.t.d.fact 16 (f := .glo "InvalidRow") rfl), rfl⟩
  i_InvalidStanding := by
    obtain ⟨fd, FD⟩ := c.t.d.def_ 17 (d := Di_InvalidStanding) rfl
    exact ⟨_, fd, fun_of FD, He.glo_ok X G (c.t.d.fact 15 (f := .glo "InvalidStanding") rfl), rfl⟩
  i_InvalidText := by
    obtain ⟨fd, FD⟩ := c.t.d.def_ 18 (d := Di_InvalidText) rfl
    exact ⟨_, fd, fun_of FD, He.glo_ok X G (c.t.d.fact 18 (f := .glo "InvalidText") rfl), rfl⟩
  i_LimitExceeded := by
    obtain ⟨fd, FD⟩ := c.t.d.def_ 19 (d := Di_LimitExceeded) rfl
    exact ⟨_, fd, fun_of FD, He.glo_ok X G (c.t.d.fact 22 (f := .glo "LimitExceeded") rfl), rfl⟩
  i_NoLimit := by
    obtain ⟨fd, FD⟩ := c.t.d.def_ 20 (d := Di_NoLimit) rfl
    exact ⟨_, fd, fun_of FD, He.glo_ok X G (c.t.d.fact 20 (f := .glo "NoLimit") rfl), rfl⟩
  i_NotPlain := by
    obtain ⟨fd, FD⟩ := c.t.d.def_ 21 (d := Di_NotPlain) rfl
    exact ⟨_, fd, fun_of FD, He.glo_ok X G (c.t.d.fact 21 (f := .glo "NotPlain") rfl), rfl⟩
  xf := by
    refine xf_ok c.more (fun p hp => ?_) fun T hT => ?_
    · simp only [exL, List.mem_cons, List.not_mem_nil, or_false] at hp
      rcases hp with rfl | rfl | rfl | rfl | rfl | rfl | rfl | rfl | rfl | rfl | rfl
      · exact He.glo_ok X G (c.t.d.fact 12 (f := .glo "InvalidFraction") rfl)
      · exact He.glo_ok X G (c.t.d.fact 13 (f := .glo "InvalidBound") rfl)
      · exact He.glo_ok X G (c.t.d.fact 14 (f := .glo "InvalidBook") rfl)
      · exact He.glo_ok X G (c.t.d.fact 15 (f := .glo "InvalidStanding") rfl)
      · exact He.glo_ok X G (c.t.d.fact 16 (f := .glo "InvalidRow") rfl)
      · exact He.glo_ok X G (c.t.d.fact 17 (f := .glo "InvalidHold") rfl)
      · exact He.glo_ok X G (c.t.d.fact 18 (f := .glo "InvalidText") rfl)
      · exact He.glo_ok X G (c.t.d.fact 19 (f := .glo "InvalidCall") rfl)
      · exact He.glo_ok X G (c.t.d.fact 20 (f := .glo "NoLimit") rfl)
      · exact He.glo_ok X G (c.t.d.fact 21 (f := .glo "NotPlain") rfl)
      · exact He.glo_ok X G (c.t.d.fact 22 (f := .glo "LimitExceeded") rfl)
    · simp only [exT, List.mem_cons, List.not_mem_nil, or_false] at hT
      rcases hT with rfl | rfl | rfl | rfl | rfl | rfl | rfl | rfl | rfl | rfl | rfl | rfl | rfl
      · exact .inl (He.glo_ok X G (c.t.d.fact 11 (f := .glo "ShareError") rfl))
      · exact .inr ⟨He.free_ok X G (c.t.d.fact 31 (f := .free "ArithmeticError") rfl), by kernel_rfl, by decide⟩
      · exact .inl (He.glo_ok X G (c.t.d.fact 19 (f := .glo "InvalidCall") rfl))
      · exact .inl (He.glo_ok X G (c.t.d.fact 13 (f := .glo "InvalidBound") rfl))
      · exact .inl (He.glo_ok X G (c.t.d.fact 14 (f := .glo "InvalidBook") rfl))
      · exact .inl (He.glo_ok X G (c.t.d.fact 16 (f := .glo "InvalidRow") rfl))
      · exact .inl (He.glo_ok X G (c.t.d.fact 17 (f := .glo "InvalidHold") rfl))
      · exact .inl (He.glo_ok X G (c.t.d.fact 12 (f := .glo "InvalidFraction") rfl))
      · exact .inl (He.glo_ok X G (c.t.d.fact 22 (f := .glo "LimitExceeded") rfl))
      · exact .inl (He.glo_ok X G (c.t.d.fact 18 (f := .glo "InvalidText") rfl))
      · exact .inl (He.glo_ok X G (c.t.d.fact 15 (f := .glo "InvalidStanding") rfl))
      · exact .inl (He.glo_ok X G (c.t.d.fact 21 (f := .glo "NotPlain") rfl))
      · exact .inl (He.glo_ok X G (c.t.d.fact 20 (f := .glo "NoLimit") rfl))
end Lw

set_option Elab.async false
set_option linter.all false
set_option maxRecDepth 100000
set_option maxHeartbeats 0
namespace Lw
open PySem L2 DL DX
theorem to0 {P : Program} {w : World} {K : PySem.W.Frag} {mg : Str → Option Value} {base : Heap} {k : Nat} {f : Addr} {fd : FuncData} {ps : List Str} {sp : Sp} (F : FnOk P w K mg base (L2.CX P w) k f fd ps sp) : FnOk P w K mg base L2.CX0 k f fd ps (fun vs H Q _ => sp vs H Q fun _ _ _ => False) :=
  ⟨fun vs H Q E h => F.len _ _ _ _ h, fun A outer s H args us vs Q E h1 h2 h3 h4 h5 => codeAny_mono (F.run A outer s H args us vs Q _ h1 h2 h3 h4 h5) fun r s' c => by
    match r, c with
    | .error e, c =>
      obtain ⟨_, _, _, _, _, _, _, _, _, _, _, _, z⟩ := c
      exact z.elim
    | .ok (.ret u), c => exact c
    | .ok .next, c => exact c.elim
    | .ok .brk, c => exact c.elim
    | .ok .cont, c => exact c.elim⟩
theorem script_ok {K : PySem.W.Frag} {mg : Str → Option Value} {H : Hp} {a : Addr} {ns : List Int} (hS : SqL K H a (ns.map V.int)) : spD K mg 1 d_law [.ref a] H (fun v _ => v = .bl true) (fun _ _ _ => False) := by
  have rv : ∀ l : List Int, RVs K mg H (l.map V.int) (l.map D.int) := fun l => by
    induction l with
    | nil => exact .nil
    | cons x r ih => exact .cons (.int x) ih
  have rel : Rel K mg H H [] [] := ⟨Same.refl _, rfl, .nil, fun n a c h => by simp at h, fun a m => nomatch m⟩
  refine ⟨rfl, H, [], [.d (.frz (ns.map D.int))], [], rel, .cons (F := []) (.d (.frz hS (rv ns))) .nil, ?_⟩
  obtain ⟨S, e⟩ := law_k03 (ns.map D.int) fun x hx => by
    obtain ⟨i, _, rfl⟩ := List.mem_map.mp hx
    exact ⟨i, rfl⟩
  rw [e]
  intro v H' G' A' F _ _ r _ _
  cases r with
  | d r => cases r; rfl
theorem bindsA {K : PySem.W.Frag} {x qual : Str} {st : Stmt} {f : Addr} {fd : FuncData} {ps : List Str} (Fh : Fun K x qual st f fd)
    (h : ∀ (kV doc pm : Value) (an : Option Addr) (cdv ct : Value) (us : List Value), us.length = ps.length → bindArgs (PySem.W.fnOf x qual (defArgs st) (defBody st) (defScope st) .none kV doc pm an cdv ct) ⟨us, []⟩ = pure (ps.zip us)) (s : Shared) (us : List Value) (hl : us.length = ps.length) : BindsTo s fd ⟨us, []⟩ (ps.zip us) := by
  obtain ⟨oc, od, kV, doc, pm, an, cdv, ct, osl, rfl, lk, hcd⟩ := Fh.ex
  exact .of_eq (h kV doc pm an cdv ct us hl)
end Lw
open PySem PySem.W PySem.Calls PyProof.Rows
theorem PySem.Challenge.cw_pageshares_k03_errors_and_their_fields_holds : PySem.Challenge.rw_pageshares_k03_errors_and_their_fields.Holds := by
  w_on; o_law
  refine HandSHeadRun.head_any (r := Lw.R) (q := view Lw.R.prog [24]) (H := Lw.hk) (ob := Lw.hob) (M := 9000) (loose := Lw.loose) (d := HandSHeadRun.topDef Lw.R.prog 24) (kwd := []) Lw.hob_eq
    (by kernel_rfl) (fun s => by kernel_rfl) Lw.run (by kernel_rfl) (by kernel_rfl) (by kernel_rfl) (by rfl) (by first | assumption | decide +kernel) (by decide +kernel) ⟨rfl, rfl, rfl, rfl, rfl, by decide +kernel⟩ ?hw ?hc
  case hw => w_witness2
  case hc =>
    refine L2.walk_ofE (l := PySem.Challenge.rw_pageshares_k03_errors_and_their_fields) (n := 63) (k := 7) (x := "_law_script") (CX := L2.CX0) rfl (by decide) (by kernel_rfl) ⟨rfl, by decide, by decide⟩ ?F (fun _ _ _ _ z => z)
    intro w mg fa h Y G hmg0
    obtain ⟨K, KX, c⟩ := Y
    have hmg : mg ("law" : PySem.Str) = some (.ref fa) := by
      have e : (HandSHeadRun.topDef Lw.R.prog 24).name = ("law" : PySem.Str) := by kernel_rfl
      rw [← e]
      exact hmg0
    have T := Lw.tx KX G c
    obtain ⟨f, fd, Fh, hf⟩ := T.f_law
    cases hf.symm.trans hmg
    have hb := Lw.bindsA (ps := ["_law_script"]) Fh fun _ _ _ _ _ _ us hl => match us, hl with | [_], _ => rfl
    refine ⟨K, fd, fun vs H Q _ => DL.spD K mg 1 Lw.d_law vs H Q fun _ _ _ => False, KX, fun s u => hb s [u] rfl, fun H a ns hl _ hS => Lw.script_ok (mg := mg) hS, fun base _ _ => ?_⟩
    exact Lw.to0 (Lw.o_law T Fh)
