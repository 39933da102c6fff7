import PyProof.Rows.All
import HandS.ForMost
import HandS.ForExc
import HandS.Wide
import HandS.HeadHook2
import HandS.Evl
import HandS.ExcInit
import HandS.ExcValue
import HandS.ExcField
import KE.KExcIs
import HandS.TupAny
import HandS.TupMul
import HandS.Style
import HandS.IsInst
import HandS.HeadEnd
import HandS.HeadWalk
import HandS.Head0
import HandS.Head1
import HandS.Head2
import PySem.Challenge.RW_scanmisses_k63_errors_made
set_option Elab.async false
set_option linter.all false
set_option maxRecDepth 100000
set_option maxHeartbeats 2000017
namespace DL
open L2 PyProof.Rows PySem PySem.Spec

/-! # Data over the hand layer -/
/-- data: what a value stands for, with what it holds -/
inductive D where
  | non | bl (b : Bool) | int (i : Int) | str (x : Str) | cls (C : Str) | ty (n : String)
  | tup (xs : List D) | lst (xs : List D) | scr (ns : List Int) | dct (kvs : List (Key × D)) | ins (C : Str) (fs : List (Str × D)) | exc (C : Str) (fs : List (Str × D))

abbrev Fg := PySem.W.Frag
mutual
inductive Rep (K : Fg) (F : Hp) : V → D → Prop
  | non : Rep K F .non .non
  | bl (b : Bool) : Rep K F (.bl b) (.bl b)
  | int (i : Int) : Rep K F (.int i) (.int i)
  | str (x : Str) : Rep K F (.str x) (.str x)
  | cls (C : Str) : Rep K F (.ref (He.ga K C)) (.cls C)
  | ty (n : String) : Rep K F (.ty n) (.ty n)
  | tup {a : Addr} {vs : List V} {ds : List D} : F a = some (.tup vs) → RepL K F vs ds → Rep K F (.ref a) (.tup ds)
  | lst {a : Addr} {vs : List V} {ds : List D} : F a = some (.lst vs) → RepL K F vs ds → Rep K F (.ref a) (.lst ds)
  | scr {a : Addr} {ns : List Int} : SqL K F a (ns.map V.int) → Rep K F (.ref a) (.scr ns)
  | dct {a : Addr} {kvs : List (Key × V)} {kds : List (Key × D)} : F a = some (.dK kvs) → RepK K F kvs kds → Rep K F (.ref a) (.dct kds)
  | ins {a dx : Addr} {C : Str} {fs : List (Str × V)} {fds : List (Str × D)} : F a = some (.ins (He.ga K C) dx fs) → RepF K F fs fds → Rep K F (.ref a) (.ins C fds)
  | exc0 {a : Addr} {C : Str} : F a = some (ExO (.ref (He.ga K C)) a) → Rep K F (.ref a) (.exc C [])
  | exc {a dx : Addr} {C : Str} {fs : List (Str × V)} {fds : List (Str × D)} : F a = some (exo a (He.ga K C) (some dx)) → F dx = some (exd dx fs) → RepF K F fs fds → Rep K F (.ref a) (.exc C fds)
inductive RepL (K : Fg) (F : Hp) : List V → List D → Prop
  | nil : RepL K F [] []
  | cons {v : V} {d : D} {vs : List V} {ds : List D} : Rep K F v d → RepL K F vs ds → RepL K F (v :: vs) (d :: ds)
inductive RepK (K : Fg) (F : Hp) : List (Key × V) → List (Key × D) → Prop
  | nil : RepK K F [] []
  | cons {k : Key} {v : V} {d : D} {vs : List (Key × V)} {ds : List (Key × D)} : Rep K F v d → RepK K F vs ds → RepK K F ((k, v) :: vs) ((k, d) :: ds)
inductive RepF (K : Fg) (F : Hp) : List (Str × V) → List (Str × D) → Prop
  | nil : RepF K F [] []
  | cons {k : Str} {v : V} {d : D} {vs : List (Str × V)} {ds : List (Str × D)} : Rep K F v d → RepF K F vs ds → RepF K F ((k, v) :: vs) ((k, d) :: ds)
end
abbrev Ex := Evl.Ex
theorem SqL.ex {K : Fg} {F F' : Hp} (e : Ex F F') {a : Addr} {xs : List V} (h : SqL K F a xs) : SqL K F' a xs := by
  rcases h with (h | ⟨o, h⟩) | h
  · exact .inl (.inl (e _ _ h))
  · exact .inl (.inr ⟨o, e _ _ h⟩)
  · exact .inr h
mutual
theorem Rep.mono {K : Fg} {F F' : Hp} (e : Ex F F') : ∀ {v : V} {d : D}, Rep K F v d → Rep K F' v d
  | _, _, .non => .non
  | _, _, .bl b => .bl b
  | _, _, .int i => .int i
  | _, _, .str x => .str x
  | _, _, .cls a => .cls a
  | _, _, .ty n => .ty n
  | _, _, .tup h r => .tup (e _ _ h) (RepL.mono e r)
  | _, _, .lst h r => .lst (e _ _ h) (RepL.mono e r)
  | _, _, .scr h => .scr (SqL.ex e h)
  | _, _, .dct h r => .dct (e _ _ h) (RepK.mono e r)
  | _, _, .ins h r => .ins (e _ _ h) (RepF.mono e r)
  | _, _, .exc0 h => .exc0 (e _ _ h)
  | _, _, .exc h h2 r => .exc (e _ _ h) (e _ _ h2) (RepF.mono e r)
theorem RepL.mono {K : Fg} {F F' : Hp} (e : Ex F F') : ∀ {v : List V} {d : List D}, RepL K F v d → RepL K F' v d
  | _, _, .nil => .nil
  | _, _, .cons h r => .cons (Rep.mono e h) (RepL.mono e r)
theorem RepK.mono {K : Fg} {F F' : Hp} (e : Ex F F') : ∀ {v : List (Key × V)} {d : List (Key × D)}, RepK K F v d → RepK K F' v d
  | _, _, .nil => .nil
  | _, _, .cons h r => .cons (Rep.mono e h) (RepK.mono e r)
theorem RepF.mono {K : Fg} {F F' : Hp} (e : Ex F F') : ∀ {v : List (Str × V)} {d : List (Str × D)}, RepF K F v d → RepF K F' v d
  | _, _, .nil => .nil
  | _, _, .cons h r => .cons (Rep.mono e h) (RepF.mono e r)
end
section
variable {K : Fg} {F : Hp}
theorem RepL.length : ∀ {vs : List V} {ds : List D}, RepL K F vs ds → vs.length = ds.length
  | _, _, .nil => rfl
  | _, _, .cons _ r => congrArg (· + 1) r.length
theorem RepL.append : ∀ {vs ws : List V} {ds es : List D}, RepL K F vs ds → RepL K F ws es → RepL K F (vs ++ ws) (ds ++ es)
  | _, _, _, _, .nil, s => s
  | _, _, _, _, .cons h r, s => .cons h (r.append s)
theorem RepL.get : ∀ {vs : List V} {ds : List D} {i : Nat} {d : D}, RepL K F vs ds → ds[i]? = some d → ∃ v, vs[i]? = some v ∧ Rep K F v d
  | _, _, _, _, .nil, e => by simp at e
  | _, _, 0, _, .cons h _, e => by simp at e; subst e; exact ⟨_, rfl, h⟩
  | _, _, i + 1, d, .cons _ r, e => by
    obtain ⟨v, h1, h2⟩ := RepL.get (i := i) (d := d) r (by simpa using e)
    exact ⟨v, by simpa using h1, h2⟩
theorem RepL.get' : ∀ {vs : List V} {ds : List D} {i : Nat} {v : V}, RepL K F vs ds → vs[i]? = some v → ∃ d, ds[i]? = some d ∧ Rep K F v d
  | _, _, _, _, .nil, e => by simp at e
  | _, _, 0, _, .cons h _, e => by simp at e; subst e; exact ⟨_, rfl, h⟩
  | _, _, i + 1, d, .cons _ r, e => by
    obtain ⟨v, h1, h2⟩ := RepL.get' (i := i) (v := d) r (by simpa using e)
    exact ⟨v, by simpa using h1, h2⟩
theorem RepL.set {v : V} {d : D} (h : Rep K F v d) : ∀ {vs : List V} {ds : List D} (i : Nat), RepL K F vs ds → RepL K F (vs.set i v) (ds.set i d)
  | _, _, _, .nil => .nil
  | _, _, 0, .cons _ r => .cons h r
  | _, _, i + 1, .cons q r => .cons q (RepL.set h i r)
theorem RepL.take : ∀ {vs : List V} {ds : List D} (n : Nat), RepL K F vs ds → RepL K F (vs.take n) (ds.take n)
  | _, _, 0, _ => .nil
  | _, _, _ + 1, .nil => .nil
  | _, _, n + 1, .cons h r => .cons h (RepL.take n r)
theorem RepL.drop : ∀ {vs : List V} {ds : List D} (n : Nat), RepL K F vs ds → RepL K F (vs.drop n) (ds.drop n)
  | _, _, 0, r => r
  | _, _, _ + 1, .nil => .nil
  | _, _, n + 1, .cons _ r => RepL.drop n r
theorem RepL.reverse : ∀ {vs : List V} {ds : List D}, RepL K F vs ds → RepL K F vs.reverse ds.reverse
  | _, _, .nil => .nil
  | _, _, .cons h r => by
    rw [List.reverse_cons, List.reverse_cons]
    exact r.reverse.append (.cons h .nil)
theorem RepF.length : ∀ {vs : List (Str × V)} {ds : List (Str × D)}, RepF K F vs ds → vs.length = ds.length
  | _, _, .nil => rfl
  | _, _, .cons _ r => congrArg (· + 1) r.length
theorem RepF.lookup {f : Str} : ∀ {vs : List (Str × V)} {ds : List (Str × D)} {d : D}, RepF K F vs ds → ds.lookup f = some d → ∃ v, vs.lookup f = some v ∧ Rep K F v d
  | _, _, _, .nil, e => by simp at e
  | _, _, d, .cons (k := k) (v := v0) (d := d0) (vs := vs0) (ds := ds0) h r, e => by
    rw [List.lookup_cons] at e ⊢
    cases q : (f == k) with
    | true =>
      rw [q] at e
      cases e
      exact ⟨_, rfl, h⟩
    | false =>
      rw [q] at e
      exact r.lookup e
theorem RepF.lookup_none {f : Str} : ∀ {vs : List (Str × V)} {ds : List (Str × D)}, RepF K F vs ds → ds.lookup f = none → vs.lookup f = none
  | _, _, .nil, _ => rfl
  | _, _, .cons (k := k) h r, e => by
    rw [List.lookup_cons] at e ⊢
    cases q : (f == k) with
    | true =>
      rw [q] at e
      cases e
    | false =>
      rw [q] at e
      exact r.lookup_none e
end

/-! ### slots, what owned things hold -/
inductive Slot where
  | no | val (d : D) | own (t : Bool) (d : D)
abbrev En := List Slot
/-- an owned object at p: its own parts are data -/
def OwnR (K : Fg) (F H : Hp) (p : Addr) : D → Prop
  | .lst ds => ∃ vs, H p = some (.lst vs) ∧ RepL K F vs ds
  | .dct ds => ∃ vs, H p = some (.dK vs) ∧ RepK K F vs ds
  | .ins C ds => ∃ dx vs, H p = some (.ins (He.ga K C) dx vs) ∧ RepF K F vs ds
  | _ => False
theorem OwnR.mono {K : Fg} {F F' H H' : Hp} {p : Addr} (e : Ex F F') (h : ∀ o, H p = some o → H' p = some o) : ∀ {d : D}, OwnR K F H p d → OwnR K F' H' p d
  | .lst _, ⟨vs, a, r⟩ => ⟨vs, h _ a, r.mono e⟩
  | .dct _, ⟨vs, a, r⟩ => ⟨vs, h _ a, r.mono e⟩
  | .ins _ _, ⟨dx, vs, a, r⟩ => ⟨dx, vs, h _ a, r.mono e⟩
theorem OwnR.there {K : Fg} {F H : Hp} {p : Addr} : ∀ {d : D}, OwnR K F H p d → ∃ o, H p = some o
  | .lst _, ⟨vs, a, r⟩ => ⟨_, a⟩
  | .dct _, ⟨vs, a, r⟩ => ⟨_, a⟩
  | .ins _ _, ⟨dx, vs, a, r⟩ => ⟨_, a⟩
/-- F: what is data; B: what stays; H: the heap -/
structure Hps (F B H : Hp) : Prop where
  fb : Ex F B
  bh : Ex B H
structure Gr (F B F' B' : Hp) : Prop where
  f : Ex F F'
  b : Ex B B'
  n : ∀ a, B a ≠ none → F' a = F a
theorem Gr.refl (F B : Hp) : Gr F B F B := ⟨Evl.Ex.refl F, Evl.Ex.refl B, fun _ _ => rfl⟩
theorem Gr.trans {F B F1 B1 F2 B2 : Hp} (a : Gr F B F1 B1) (b : Gr F1 B1 F2 B2) : Gr F B F2 B2 :=
  ⟨a.f.trans b.f, a.b.trans b.b, fun x h => by
    rw [b.n x (fun z => h ?_), a.n x h]
    cases q : B x with
    | none => rfl
    | some o => rw [a.b x o q] at z; cases z⟩
/-- the slots: σ0 the entry's, for what the caller owns -/
structure EnvR (K : Fg) (σ0 : L2.St) (F B H : Hp) (σ : L2.St) (ρ : En) : Prop where
  hp : Hps F B H
  len : σ.length = ρ.length
  val : ∀ (i : Nat) (d : D), ρ[i]? = some (.val d) → ∃ v, σ[i]? = some (some v) ∧ Rep K F v d
  own : ∀ (i : Nat) (t : Bool) (d : D), ρ[i]? = some (.own t d) → ∃ p, σ[i]? = some (some (.ref p)) ∧ B p = none ∧ OwnR K F H p d ∧ (t = true → σ0[i]? = some (some (.ref p)))
  dif : ∀ (i j : Nat) (t t' : Bool) (d d' : D) (p : Addr), ρ[i]? = some (.own t d) → ρ[j]? = some (.own t' d') → σ[i]? = some (some (.ref p)) → σ[j]? = some (some (.ref p)) → i = j
/-- a result -/
def ResR (K : Fg) (F B H : Hp) (σ : L2.St) (ρ : En) (v : V) : Slot → Prop
  | .no => False
  | .val d => Rep K F v d
  | .own _ d => ∃ p, v = .ref p ∧ B p = none ∧ OwnR K F H p d ∧ ∀ (i : Nat) (t : Bool) (d' : D), ρ[i]? = some (.own t d') → σ[i]? ≠ some (some (.ref p))
/-- an exception: its class's name, its fields -/
structure Exn where
  cls : Str
  fs : List (Str × D)
def ExnR (K : Fg) (F : Hp) (cls : Value) (d : Option Addr) (x : Exn) : Prop :=
  cls = .ref (He.ga K x.cls) ∧ ((x.fs = [] ∧ d = none) ∨ ∃ dd fs, d = some dd ∧ F dd = some (.xd fs) ∧ RepF K F fs x.fs)
/-- an outcome -/
inductive Oc (α : Type) where
  | ok (a : α) (ρ : En) | exc (x : Exn) (ρ : En) | bad
inductive AArg where
  | v (d : D) | o (j : Nat)
inductive Fl where
  | nx | ret (s : Slot) | brk | ct
abbrev EOut := Oc Slot
abbrev AOut := Oc (List AArg)
abbrev TOut := Oc Bool
abbrev SOut := Oc Fl
abbrev DTE := En → Oc Slot
abbrev DTV := En → Oc D
abbrev DTA := En → Oc (List AArg)
abbrev DTT := En → Oc Bool
abbrev DTS := En → Oc Fl
def Oc.bind {α β : Type} (o : Oc α) (k : α → En → Oc β) : Oc β := match o with
  | .ok a ρ => k a ρ
  | .exc x ρ => .exc x ρ
  | .bad => .bad
/-- a value: an owned one is frozen -/
def fz (o : Oc Slot) : Oc D := match o with
  | .ok (.val d) ρ => .ok d ρ
  | .ok (.own _ d) ρ => .ok d ρ
  | .ok .no _ => .bad
  | .exc x ρ => .exc x ρ
  | .bad => .bad
def vl (o : Oc D) : Oc Slot := match o with
  | .ok d ρ => .ok (.val d) ρ
  | .exc x ρ => .exc x ρ
  | .bad => .bad

section
variable (K : Fg) (σ0 : L2.St) (W : WX) (F B : Hp) (σ : L2.St)
def ExOk (x : Exn) (ρ : En) : Prop := ∀ cls d F' B' H', Gr F B F' B' → EnvR K σ0 F' B' H' σ ρ → ExnR K F' cls d x → W cls d σ H'
def OOk {α : Type} (P : α → En → Prop) : Oc α → Prop
  | .ok a ρ => P a ρ
  | .exc x ρ => ExOk K σ0 W F B σ x ρ
  | .bad => False
def PEnd (Q : VK) (s : Slot) (ρ : En) : Prop := ∀ v F' B' H', Gr F B F' B' → EnvR K σ0 F' B' H' σ ρ → ResR K F' B' H' σ ρ v s → Q v H'
def PVal (Q : VK) (d : D) (ρ : En) : Prop := ∀ v F' B' H', Gr F B F' B' → EnvR K σ0 F' B' H' σ ρ → Rep K F' v d → Q v H'
def PTst (Q : Bool → Hp → Prop) (b : Bool) (ρ : En) : Prop := ∀ F' B' H', Gr F B F' B' → EnvR K σ0 F' B' H' σ ρ → Q b H'
def ArgR (F : Hp) (v : V) : AArg → Prop
  | .v d => Rep K F v d
  | .o j => σ[j]? = some (some v)
def PArg (Q : List V → Hp → Prop) (as : List AArg) (ρ : En) : Prop := ∀ vs F' B' H', Gr F B F' B' → EnvR K σ0 F' B' H' σ ρ → Paired (ArgR K σ F') vs as → Q vs H'
def EOk (Q : VK) (o : Oc Slot) : Prop := OOk K σ0 W F B σ (PEnd K σ0 F B σ Q) o
def VOk (Q : VK) (o : Oc D) : Prop := OOk K σ0 W F B σ (PVal K σ0 F B σ Q) o
def TOk (Q : Bool → Hp → Prop) (o : Oc Bool) : Prop := OOk K σ0 W F B σ (PTst K σ0 F B σ Q) o
def AOk (Q : List V → Hp → Prop) (o : Oc (List AArg)) : Prop := OOk K σ0 W F B σ (PArg K σ0 F B σ Q) o
def SOk (D : Ends) : Oc Fl → Prop
  | .ok .nx ρ => ∀ σ' F' B' H', Gr F B F' B' → EnvR K σ0 F' B' H' σ' ρ → D.nx σ' H'
  | .ok .brk ρ => ∀ σ' F' B' H', Gr F B F' B' → EnvR K σ0 F' B' H' σ' ρ → D.bk σ' H'
  | .ok .ct ρ => ∀ σ' F' B' H', Gr F B F' B' → EnvR K σ0 F' B' H' σ' ρ → D.ct σ' H'
  | .ok (.ret s) ρ => ∀ v σ' F' B' H', Gr F B F' B' → EnvR K σ0 F' B' H' σ' ρ → ResR K F' B' H' σ' ρ v s → D.rt v H'
  | .exc x ρ => ∀ cls d σ' F' B' H', Gr F B F' B' → EnvR K σ0 F' B' H' σ' ρ → ExnR K F' cls d x → W cls d σ' H'
  | .bad => False
end
/-! ### the judgements -/
structure DE (X : Cx) (σ0 : L2.St) (W : WX) (e : Expr) (te : DTE) : Prop where
  pf : ∃ t : TE, PE X e t ∧ ∀ σ F B H ρ Q, EnvR X.K σ0 F B H σ ρ → EOk X.K σ0 W F B σ Q (te ρ) → t σ H Q
structure DV (X : Cx) (σ0 : L2.St) (W : WX) (e : Expr) (te : DTV) : Prop where
  pf : ∃ t : TE, PE X e t ∧ ∀ σ F B H ρ Q, EnvR X.K σ0 F B H σ ρ → VOk X.K σ0 W F B σ Q (te ρ) → t σ H Q
structure DT (X : Cx) (σ0 : L2.St) (W : WX) (e : Expr) (tt : DTT) : Prop where
  pf : ∃ t : TT, PT X e t ∧ ∀ σ F B H ρ Q, EnvR X.K σ0 F B H σ ρ → TOk X.K σ0 W F B σ Q (tt ρ) → t σ H Q
structure DA (X : Cx) (σ0 : L2.St) (W : WX) (es : List Expr) (ta : DTA) : Prop where
  pf : ∃ t : TA, PA X es t ∧ ∀ σ F B H ρ Q, EnvR X.K σ0 F B H σ ρ → AOk X.K σ0 W F B σ Q (ta ρ) → t σ H Q
structure DS (X : Cx) (σ0 : L2.St) (W : WX) (st : Stmt) (ts : DTS) : Prop where
  pf : ∃ t : TS, PS X st t ∧ ∀ σ F B H ρ D, EnvR X.K σ0 F B H σ ρ → SOk X.K σ0 W F B D (ts ρ) → t D σ H
structure DSs (X : Cx) (σ0 : L2.St) (W : WX) (st : List Stmt) (ts : DTS) : Prop where
  pf : ∃ t : TS, PSs X st t ∧ ∀ σ F B H ρ D, EnvR X.K σ0 F B H σ ρ → SOk X.K σ0 W F B D (ts ρ) → t D σ H

/-! ### outcomes in a row -/
section
variable {K : Fg} {σ0 : L2.St} {W : WX} {F B F' B' H H' : Hp} {σ : L2.St} {ρ : En} {x : Exn}
theorem ExOk.gr (g : Gr F B F' B') (h : ExOk K σ0 W F B σ x ρ) : ExOk K σ0 W F' B' σ x ρ :=
  fun cls d F1 B1 H1 g1 e r => h cls d F1 B1 H1 (g.trans g1) e r
theorem OOk.bind {α β : Type} {P : β → En → Prop} {o : Oc α} {k : α → En → Oc β} (h : OOk K σ0 W F B σ P (o.bind k)) : OOk K σ0 W F B σ (fun a ρ => OOk K σ0 W F B σ P (k a ρ)) o := by
  cases o <;> exact h
theorem OOk.imp {α : Type} {P P' : α → En → Prop} {o : Oc α} (h : OOk K σ0 W F B σ P o) (i : ∀ a ρ, P a ρ → P' a ρ) : OOk K σ0 W F B σ P' o := by
  cases o with
  | ok a ρ => exact i a ρ h
  | exc x ρ => exact h
  | bad => exact h
theorem OOk.gr {α : Type} {P P' : α → En → Prop} {o : Oc α} (g : Gr F B F' B') (h : OOk K σ0 W F B σ P o) (i : ∀ a ρ, P a ρ → P' a ρ) : OOk K σ0 W F' B' σ P' o := by
  cases o with
  | ok a ρ => exact i a ρ h
  | exc x ρ => exact ExOk.gr g h
  | bad => exact h
theorem EOk.gr {Q : VK} {o : Oc Slot} (g : Gr F B F' B') (h : EOk K σ0 W F B σ Q o) : EOk K σ0 W F' B' σ Q o :=
  OOk.gr g h fun _ _ p v F1 B1 H1 g1 e r => p v F1 B1 H1 (g.trans g1) e r
theorem VOk.gr {Q : VK} {o : Oc D} (g : Gr F B F' B') (h : VOk K σ0 W F B σ Q o) : VOk K σ0 W F' B' σ Q o :=
  OOk.gr g h fun _ _ p v F1 B1 H1 g1 e r => p v F1 B1 H1 (g.trans g1) e r
theorem TOk.gr {Q : Bool → Hp → Prop} {o : Oc Bool} (g : Gr F B F' B') (h : TOk K σ0 W F B σ Q o) : TOk K σ0 W F' B' σ Q o :=
  OOk.gr g h fun _ _ p F1 B1 H1 g1 e => p F1 B1 H1 (g.trans g1) e
theorem AOk.gr {Q : List V → Hp → Prop} {o : Oc (List AArg)} (g : Gr F B F' B') (h : AOk K σ0 W F B σ Q o) : AOk K σ0 W F' B' σ Q o :=
  OOk.gr g h fun _ _ p v F1 B1 H1 g1 e r => p v F1 B1 H1 (g.trans g1) e r
theorem SOk.gr {D : Ends} {o : Oc Fl} (g : Gr F B F' B') (h : SOk K σ0 W F B D o) : SOk K σ0 W F' B' D o := by
  cases o with
  | ok f ρ =>
    cases f with
    | nx => exact fun s F1 B1 H1 g1 e => h s F1 B1 H1 (g.trans g1) e
    | brk => exact fun s F1 B1 H1 g1 e => h s F1 B1 H1 (g.trans g1) e
    | ct => exact fun s F1 B1 H1 g1 e => h s F1 B1 H1 (g.trans g1) e
    | ret v => exact fun v s F1 B1 H1 g1 e r => h v s F1 B1 H1 (g.trans g1) e r
  | exc x ρ => exact fun cls d s F1 B1 H1 g1 e r => h cls d s F1 B1 H1 (g.trans g1) e r
  | bad => exact h
/-- an expression's exception, as a statement's -/
theorem SOk.of {α : Type} {D : Ends} {o : Oc α} {k : α → En → Oc Fl} (h : SOk K σ0 W F B D (o.bind k)) : OOk K σ0 W F B σ (fun a ρ => SOk K σ0 W F B D (k a ρ)) o := by
  cases o with
  | ok a ρ => exact h
  | exc x ρ => exact fun cls d F' B' H' g e r => h cls d σ F' B' H' g e r
  | bad => exact h
end

/-! ### the slots' moves -/
section
variable {K : Fg} {σ0 : L2.St} {F B F' B' H H' : Hp} {σ : L2.St} {ρ : En} {p : Addr} {o : HO}
theorem Ex.new {p : Addr} {o : HO} (h : H p = none) : Ex H (upd H p o) := Evl.Ex.new h
theorem Hps.none (h : Hps F B H) (e : H p = none) : B p = none ∧ F p = none := by
  have hb : B p = Option.none := by
    cases q : B p with
    | none => rfl
    | some o => rw [h.bh p o q] at e; cases e
  refine ⟨hb, ?_⟩
  cases q : F p with
  | none => rfl
  | some o => rw [h.fb p o q] at hb; cases hb
theorem Hps.fnone (h : Hps F B H) (e : B p = Option.none) : F p = Option.none := by
  cases q : F p with
  | none => rfl
  | some o => rw [h.fb p o q] at e; cases e
theorem Gr.new (h : B p = none) (hf : F p = none) : Gr F B (upd F p o) (upd B p o) :=
  ⟨Evl.Ex.new hf, Evl.Ex.new h, fun a ha => by rw [upd_ne (fun z => ha (by rw [z]; exact h))]⟩
theorem Hps.new (h : Hps F B H) : Hps (upd F p o) (upd B p o) (upd H p o) :=
  ⟨fun a u e => by
    by_cases q : a = p
    · rw [q, upd_same] at e ⊢; exact e
    · rw [upd_ne q] at e ⊢; exact h.fb a u e,
   fun a u e => by
    by_cases q : a = p
    · rw [q, upd_same] at e ⊢; exact e
    · rw [upd_ne q] at e ⊢; exact h.bh a u e⟩
/-- a new thing, data from now on -/
theorem EnvR.new (h : EnvR K σ0 F B H σ ρ) (e : H p = none) : EnvR K σ0 (upd F p o) (upd B p o) (upd H p o) σ ρ := by
  obtain ⟨hb, hf⟩ := h.hp.none e
  have xf : Ex F (upd F p o) := Evl.Ex.new hf
  refine ⟨h.hp.new, h.len, fun i d q => ?_, fun i t d q => ?_, h.dif⟩
  · obtain ⟨v, a, r⟩ := h.val i d q
    exact ⟨v, a, r.mono xf⟩
  · obtain ⟨z, a, b, c, w⟩ := h.own i t d q
    obtain ⟨u, hu⟩ := c.there
    have ne : z ≠ p := fun y => by rw [y, e] at hu; cases hu
    exact ⟨z, a, by rw [upd_ne ne]; exact b, c.mono xf fun u hu => by rw [upd_ne ne]; exact hu, w⟩
/-- a new thing, owned -/
theorem EnvR.newOwn (h : EnvR K σ0 F B H σ ρ) (e : H p = none) : EnvR K σ0 F B (upd H p o) σ ρ := by
  refine ⟨⟨h.hp.fb, fun a u q => ?_⟩, h.len, h.val, fun i t d q => ?_, h.dif⟩
  · rw [upd_ne (fun z => by rw [z] at q; rw [h.hp.bh p u q] at e; cases e)]
    exact h.hp.bh a u q
  · obtain ⟨z, a, b, c, w⟩ := h.own i t d q
    obtain ⟨u, hu⟩ := c.there
    have ne : z ≠ p := fun y => by rw [y, e] at hu; cases hu
    exact ⟨z, a, b, c.mono (Evl.Ex.refl F) fun u hu => by rw [upd_ne ne]; exact hu, w⟩
theorem EnvR.res_new (h : EnvR K σ0 F B H σ ρ) (e : H p = none) : ∀ (i : Nat) (t : Bool) (d' : D), ρ[i]? = some (.own t d') → σ[i]? ≠ some (some (.ref p)) := fun i t d q z => by
  obtain ⟨y, a, b, c, w⟩ := h.own i t d q
  rw [a] at z
  cases z
  obtain ⟨u, hu⟩ := c.there
  rw [hu] at e
  cases e
/-- what is owned becomes data: the heap, the data's heap -/
theorem freeze_rep {d : D} (hf : F p = none) (h : OwnR K F H p d) : ∃ o, H p = some o ∧ Rep K (upd F p o) (.ref p) d := by
  have xf : ∀ o, Ex F (upd F p o) := fun o => Evl.Ex.new hf
  cases d with
  | lst ds =>
    obtain ⟨vs, a, r⟩ := h
    exact ⟨_, a, .lst upd_same (r.mono (xf _))⟩
  | dct ds =>
    obtain ⟨vs, a, r⟩ := h
    exact ⟨_, a, .dct upd_same (r.mono (xf _))⟩
  | ins C ds =>
    obtain ⟨dx, vs, a, r⟩ := h
    exact ⟨_, a, .ins upd_same (r.mono (xf _))⟩
  | _ => exact h.elim
theorem upd_id {o : HO} (h : H p = some o) : upd H p o = H := by
  funext b
  by_cases q : b = p
  · rw [q, upd_same, h]
  · rw [upd_ne q]
/-- at any address that no slot owns: what stands there becomes data -/
theorem EnvR.freezeAt (h : EnvR K σ0 F B H σ ρ) (hb : B p = none) (ho : H p = some o) (hn : ∀ (i : Nat) (t : Bool) (d' : D), ρ[i]? = some (.own t d') → σ[i]? ≠ some (some (.ref p))) :
    EnvR K σ0 (upd F p o) (upd B p o) H σ ρ := by
  have hf := h.hp.fnone hb
  have xf : Ex F (upd F p o) := Evl.Ex.new hf
  have hh : Hps (upd F p o) (upd B p o) H := by
    have q := h.hp.new (p := p) (o := o)
    rw [upd_id ho] at q
    exact q
  refine ⟨hh, h.len, fun i d q => ?_, fun i t d q => ?_, h.dif⟩
  · obtain ⟨v, a, r⟩ := h.val i d q
    exact ⟨v, a, r.mono xf⟩
  · obtain ⟨z, a, b, c, w⟩ := h.own i t d q
    have ne : z ≠ p := fun y => hn i t d q (by rw [a, y])
    exact ⟨z, a, by rw [upd_ne ne]; exact b, c.mono xf fun u hu => hu, w⟩
theorem get_set {α : Type} {l : List α} {i j : Nat} {x y : α} (h : (l.set i x)[j]? = some y) : (j = i ∧ y = x) ∨ (j ≠ i ∧ l[j]? = some y) := by
  by_cases q : i = j
  · subst q
    by_cases z : i < l.length
    · rw [List.getElem?_set_self z] at h
      exact .inl ⟨rfl, (Option.some.inj h).symm⟩
    · rw [List.getElem?_eq_none (by simpa using z)] at h
      cases h
  · rw [List.getElem?_set_ne q] at h
    exact .inr ⟨fun z => q z.symm, h⟩
theorem EnvR.lt (h : EnvR K σ0 F B H σ ρ) {i : Nat} {s : Slot} (e : ρ[i]? = some s) : i < σ.length := by
  rw [h.len]
  exact (List.getElem?_eq_some_iff.mp e).1
/-- a slot of a name gets data -/
theorem EnvR.setVal {i : Nat} {v : V} {d : D} (h : EnvR K σ0 F B H σ ρ) (r : Rep K F v d) (hn : ∀ d', ρ[i]? ≠ some (.own true d')) : EnvR K σ0 F B H (σ.set i (some v)) (ρ.set i (.val d)) := by
  refine ⟨h.hp, by rw [List.length_set, List.length_set]; exact h.len, fun j e q => ?_, fun j t e q => ?_, fun j k t t' e e' z a b c d' => ?_⟩
  · rcases get_set q with ⟨rfl, y⟩ | ⟨n, y⟩
    · cases y
      have lt : j < σ.length := by
        have := (List.getElem?_eq_some_iff.mp q).1
        rw [List.length_set] at this
        rw [h.len]; exact this
      exact ⟨v, List.getElem?_set_self lt, r⟩
    · obtain ⟨w, a, b⟩ := h.val j e y
      exact ⟨w, by rw [List.getElem?_set_ne (Ne.symm n)]; exact a, b⟩
  · rcases get_set q with ⟨rfl, y⟩ | ⟨n, y⟩
    · cases y
    · obtain ⟨w, a, b⟩ := h.own j t e y
      exact ⟨w, by rw [List.getElem?_set_ne (Ne.symm n)]; exact a, b⟩
  · rcases get_set a with ⟨rfl, y⟩ | ⟨n, y⟩
    · cases y
    · rcases get_set b with ⟨rfl, y'⟩ | ⟨n', y'⟩
      · cases y'
      · rw [List.getElem?_set_ne (Ne.symm n)] at c
        rw [List.getElem?_set_ne (Ne.symm n')] at d'
        exact h.dif j k t t' e e' z y y' c d'
theorem EnvR.setOwn {i : Nat} {d : D} (h : EnvR K σ0 F B H σ ρ) (r : ResR K F B H σ ρ (.ref p) (.own false d)) (hn : ∀ d', ρ[i]? ≠ some (.own true d')) : EnvR K σ0 F B H (σ.set i (some (.ref p))) (ρ.set i (.own false d)) := by
  obtain ⟨p', ep, hb, ho, hd⟩ := r
  cases ep
  refine ⟨h.hp, by rw [List.length_set, List.length_set]; exact h.len, fun j e q => ?_, fun j t e q => ?_, fun j k t t' e e' z a b c d' => ?_⟩
  · rcases get_set q with ⟨rfl, y⟩ | ⟨n, y⟩
    · cases y
    · obtain ⟨w, a, b⟩ := h.val j e y
      exact ⟨w, by rw [List.getElem?_set_ne (Ne.symm n)]; exact a, b⟩
  · rcases get_set q with ⟨rfl, y⟩ | ⟨n, y⟩
    · cases y
      have lt : j < σ.length := by
        have := (List.getElem?_eq_some_iff.mp q).1
        rw [List.length_set] at this
        rw [h.len]; exact this
      exact ⟨p, List.getElem?_set_self lt, hb, ho, fun z => nomatch z⟩
    · obtain ⟨w, a, b⟩ := h.own j t e y
      exact ⟨w, by rw [List.getElem?_set_ne (Ne.symm n)]; exact a, b⟩
  · rcases get_set a with ⟨rfl, y⟩ | ⟨n, y⟩
    · rcases get_set b with ⟨rfl, y'⟩ | ⟨n', y'⟩
      · rfl
      · have lt : j < σ.length := by
          have := (List.getElem?_eq_some_iff.mp a).1
          rw [List.length_set] at this
          rw [h.len]; exact this
        rw [List.getElem?_set_self lt] at c
        cases c
        rw [List.getElem?_set_ne (Ne.symm n')] at d'
        exact absurd d' (hd k t' e' y')
    · rcases get_set b with ⟨rfl, y'⟩ | ⟨n', y'⟩
      · have lt : k < σ.length := by
          have := (List.getElem?_eq_some_iff.mp b).1
          rw [List.length_set] at this
          rw [h.len]; exact this
        rw [List.getElem?_set_self lt] at d'
        cases d'
        rw [List.getElem?_set_ne (Ne.symm n)] at c
        exact absurd c (hd j t e y)
      · rw [List.getElem?_set_ne (Ne.symm n)] at c
        rw [List.getElem?_set_ne (Ne.symm n')] at d'
        exact h.dif j k t t' e e' z y y' c d'
/-- an owned thing of a slot is changed -/
theorem EnvR.write {i : Nat} {t : Bool} {d d' : D} {o' : HO} (h : EnvR K σ0 F B H σ ρ) (e : ρ[i]? = some (.own t d)) (es : σ[i]? = some (some (.ref p))) (r : OwnR K F (upd H p o') p d') :
    EnvR K σ0 F B (upd H p o') σ (ρ.set i (.own t d')) := by
  obtain ⟨p', a, hb, ho, w⟩ := h.own i t d e
  rw [es] at a
  cases a
  refine ⟨⟨h.hp.fb, fun b u q => ?_⟩, by rw [List.length_set]; exact h.len, fun j f q => ?_, fun j t' f q => ?_, fun j k t1 t2 f f' z a b c d'' => ?_⟩
  · rw [upd_ne (fun z => by rw [z, hb] at q; cases q)]
    exact h.hp.bh b u q
  · rcases get_set q with ⟨rfl, y⟩ | ⟨n, y⟩
    · cases y
    · exact h.val j f y
  · rcases get_set q with ⟨rfl, y⟩ | ⟨n, y⟩
    · cases y
      exact ⟨p, es, hb, r, w⟩
    · obtain ⟨z, a, b, c, w'⟩ := h.own j t' f y
      have ne : z ≠ p := fun q => n (h.dif j i t' t f d p y e (by rw [a, q]) es)
      exact ⟨z, a, b, c.mono (Evl.Ex.refl F) fun u hu => by rw [upd_ne ne]; exact hu, w'⟩
  · have find : ∀ (j : Nat) (t1 : Bool) (f : D), (ρ.set i (.own t d'))[j]? = some (.own t1 f) → ∃ t2 f2, ρ[j]? = some (.own t2 f2) := fun j t1 f q => by
      rcases get_set q with ⟨rfl, y⟩ | ⟨n, y⟩
      · exact ⟨t, d, e⟩
      · exact ⟨t1, f, y⟩
    obtain ⟨t3, f3, q3⟩ := find j t1 f a
    obtain ⟨t4, f4, q4⟩ := find k t2 f' b
    exact h.dif j k _ _ _ _ z q3 q4 c d''
/-- a slot's owned thing becomes data -/
theorem EnvR.freeze {i : Nat} {d : D} (h : EnvR K σ0 F B H σ ρ) (e : ρ[i]? = some (.own false d)) : ∃ p o, σ[i]? = some (some (.ref p)) ∧ Gr F B (upd F p o) (upd B p o) ∧ EnvR K σ0 (upd F p o) (upd B p o) H σ (ρ.set i (.val d)) ∧ Rep K (upd F p o) (.ref p) d := by
  obtain ⟨p, a, hb, ho, w⟩ := h.own i false d e
  have hf := h.hp.fnone hb
  obtain ⟨o, hp, rr⟩ := freeze_rep hf ho
  have xf : Ex F (upd F p o) := Evl.Ex.new hf
  refine ⟨p, o, a, Gr.new hb hf, ?_, rr⟩
  have hh : Hps (upd F p o) (upd B p o) H := by
    have q := h.hp.new (p := p) (o := o)
    rw [upd_id hp] at q
    exact q
  refine ⟨hh, by rw [List.length_set]; exact h.len, fun j f q => ?_, fun j t f q => ?_, fun j k t1 t2 f f' z a1 b1 c1 d1 => ?_⟩
  · rcases get_set q with ⟨rfl, y⟩ | ⟨n, y⟩
    · cases y
      exact ⟨_, a, rr⟩
    · obtain ⟨v, x, r⟩ := h.val j f y
      exact ⟨v, x, r.mono xf⟩
  · rcases get_set q with ⟨rfl, y⟩ | ⟨n, y⟩
    · cases y
    · obtain ⟨z, b, c, g, w'⟩ := h.own j t f y
      have ne : z ≠ p := fun q => n (h.dif j i t false f d p y e (by rw [b, q]) a)
      exact ⟨z, b, by rw [upd_ne ne]; exact c, g.mono xf fun u hu => hu, w'⟩
  · rcases get_set a1 with ⟨rfl, y⟩ | ⟨n, y⟩
    · cases y
    · rcases get_set b1 with ⟨rfl, y'⟩ | ⟨n', y'⟩
      · cases y'
      · exact h.dif j k t1 t2 f f' z y y' c1 d1
end
section
variable {X : Cx} {σ0 : L2.St} {W : WX}
theorem DE.of_run {e : Expr} {te : DTE} (h : ∀ pins s σ F B H ρ Q, Inv X pins σ H s → EnvR X.K σ0 F B H σ ρ → EOk X.K σ0 W F B σ Q (te ρ) → wpAny (model X.prog X.w) X.A (eval e X.env) (EP X pins σ Q) X.xe s) : DE X σ0 W e te :=
  ⟨⟨fun σ H Q => ∀ pins s, Inv X pins σ H s → wpAny (model X.prog X.w) X.A (eval e X.env) (EP X pins σ Q) X.xe s, ⟨fun pins s σ H Q I q => q pins s I⟩, fun σ F B H ρ Q E q pins s I => h pins s σ F B H ρ Q I E q⟩⟩
theorem DV.of_run {e : Expr} {te : DTV} (h : ∀ pins s σ F B H ρ Q, Inv X pins σ H s → EnvR X.K σ0 F B H σ ρ → VOk X.K σ0 W F B σ Q (te ρ) → wpAny (model X.prog X.w) X.A (eval e X.env) (EP X pins σ Q) X.xe s) : DV X σ0 W e te :=
  ⟨⟨fun σ H Q => ∀ pins s, Inv X pins σ H s → wpAny (model X.prog X.w) X.A (eval e X.env) (EP X pins σ Q) X.xe s, ⟨fun pins s σ H Q I q => q pins s I⟩, fun σ F B H ρ Q E q pins s I => h pins s σ F B H ρ Q I E q⟩⟩
theorem DT.of_run {e : Expr} {te : DTT} (h : ∀ pins s σ F B H ρ Q, Inv X pins σ H s → EnvR X.K σ0 F B H σ ρ → TOk X.K σ0 W F B σ Q (te ρ) → wpAny (model X.prog X.w) X.A (isTrue e X.env (eval e X.env)) (TP X pins σ Q) X.xe s) : DT X σ0 W e te :=
  ⟨⟨fun σ H Q => ∀ pins s, Inv X pins σ H s → wpAny (model X.prog X.w) X.A (isTrue e X.env (eval e X.env)) (TP X pins σ Q) X.xe s, ⟨fun pins s σ H Q I q => q pins s I⟩, fun σ F B H ρ Q E q pins s I => h pins s σ F B H ρ Q I E q⟩⟩
theorem DS.of_run {e : Stmt} {te : DTS} (h : ∀ pins s σ F B H ρ D, Inv X pins σ H s → EnvR X.K σ0 F B H σ ρ → SOk X.K σ0 W F B D (te ρ) → wpAny (model X.prog X.w) X.A (exec e X.env) (SP X pins D) X.xe s) : DS X σ0 W e te :=
  ⟨⟨fun D σ H => ∀ pins s, Inv X pins σ H s → wpAny (model X.prog X.w) X.A (exec e X.env) (SP X pins D) X.xe s, ⟨fun pins s σ H Q I q => q pins s I⟩, fun σ F B H ρ D E q pins s I => h pins s σ F B H ρ D I E q⟩⟩
end
/-- any expression's value, frozen -/
theorem DE.fz {X : Cx} {σ0 : L2.St} {W : WX} {e : Expr} {te : DTE} (h : DE X σ0 W e te) : DV X σ0 W e fun ρ => fz (te ρ) := by
  obtain ⟨t, ht, hh⟩ := h.pf
  refine ⟨t, ht, fun σ F B H ρ Q E q => hh σ F B H ρ Q E ?_⟩
  cases q0 : te ρ with
  | ok s ρ1 =>
    rw [q0] at q
    cases s with
    | no => exact False.elim q
    | val d => exact fun v F' B' H' g E' r => q v F' B' H' g E' r
    | own t d =>
      intro v F' B' H' g E' r
      obtain ⟨p, rfl, hb, ho, hn⟩ := r
      have hf := E'.hp.fnone hb
      obtain ⟨o, hp, rr⟩ := freeze_rep hf ho
      exact q _ _ _ _ (g.trans (Gr.new hb hf)) (E'.freezeAt hb hp hn) rr
  | exc x ρ1 => rw [q0] at q; exact q
  | bad => rw [q0] at q; exact q
theorem DV.e {X : Cx} {σ0 : L2.St} {W : WX} {e : Expr} {te : DTV} (h : DV X σ0 W e te) : DE X σ0 W e fun ρ => vl (te ρ) := by
  obtain ⟨t, ht, hh⟩ := h.pf
  refine ⟨t, ht, fun σ F B H ρ Q E q => hh σ F B H ρ Q E ?_⟩
  cases q0 : te ρ with
  | ok s ρ1 => rw [q0] at q; exact fun v F' B' H' g E' r => q v F' B' H' g E' r
  | exc x ρ1 => rw [q0] at q; exact q
  | bad => rw [q0] at q; exact q
end DL

set_option Elab.async false
set_option linter.all false
set_option maxRecDepth 100000
set_option maxHeartbeats 2000017
namespace DL
open L2 PyProof.Rows PySem PySem.Spec

/-! ### operations by values -/
abbrev Mx (X : Cx) : Model := model X.prog X.w
/-- an operation of two values -/
def OpD (X : Cx) (σ0 : L2.St) (f : Value → Value → Sem Value) (g : D → D → Option Slot) : Prop :=
  ∀ pins s σ F B H ρ x y v u d e sl Q, Inv X pins σ H s → EnvR X.K σ0 F B H σ ρ → RelV x v → RelV y u → Rep X.K F x d → Rep X.K F y e → g d e = some sl →
    PEnd X.K σ0 F B σ Q sl ρ → wpAny (Mx X) X.A (f v u) (EP X pins σ Q) X.xe s
def UnD (X : Cx) (σ0 : L2.St) (f : Value → Sem Value) (g : D → Option Slot) : Prop :=
  ∀ pins s σ F B H ρ x v d sl Q, Inv X pins σ H s → EnvR X.K σ0 F B H σ ρ → RelV x v → Rep X.K F x d → g d = some sl →
    PEnd X.K σ0 F B σ Q sl ρ → wpAny (Mx X) X.A (f v) (EP X pins σ Q) X.xe s
/-- a call of a known value -/
def ClD (X : Cx) (σ0 : L2.St) (f : Value) (g : List D → Option Slot) : Prop :=
  ∀ pins s σ F B H ρ xs us ds sl Q, Inv X pins σ H s → EnvR X.K σ0 F B H σ ρ → Vals xs us → RepL X.K F xs ds → g ds = some sl →
    PEnd X.K σ0 F B σ Q sl ρ → wpAny (Mx X) X.A (call f us) (EP X pins σ Q) X.xe s
def opt {α : Type} (s : Option α) (ρ : En) : Oc α := match s with
  | some a => .ok a ρ
  | none => .bad
/-- the weakest readings -/
def wOp (X : Cx) (f : Value → Value → Sem Value) : R2 := fun x y H Q => ∀ pins s σ v u, Inv X pins σ H s → RelV x v → RelV y u → wpAny (Mx X) X.A (f v u) (EP X pins σ Q) X.xe s
theorem wOp_ok {X : Cx} {f : Value → Value → Sem Value} : OpR X f (wOp X f) := fun pins s σ H x y v u Q I rx ry h => h pins s σ v u I rx ry

section
variable {X : Cx} {σ0 : L2.St} {W : WX} {F B F' B' H H' : Hp} {σ : L2.St} {ρ : En}
/-- from a value on -/
theorem VOk.step {β : Type} {P : β → En → Prop} {R : VK} {o : Oc D} {k : D → En → Oc β} (h : OOk X.K σ0 W F B σ P (o.bind k))
    (i : ∀ d ρ1 v F' B' H', Gr F B F' B' → EnvR X.K σ0 F' B' H' σ ρ1 → Rep X.K F' v d → OOk X.K σ0 W F B σ P (k d ρ1) → R v H') : VOk X.K σ0 W F B σ R o :=
  h.bind.imp fun d ρ1 q v F' B' H' g e r => i d ρ1 v F' B' H' g e r q
theorem PEnd.gr {Q : VK} {s : Slot} (g : Gr F B F' B') (h : PEnd X.K σ0 F B σ Q s ρ) : PEnd X.K σ0 F' B' σ Q s ρ := fun v F1 B1 H1 g1 e r => h v F1 B1 H1 (g.trans g1) e r
/-- the end of an operation: nothing new, a value -/
theorem PEnd.val {Q : VK} {v : V} {d : D} (h : PEnd X.K σ0 F B σ Q (.val d) ρ) (E : EnvR X.K σ0 F B H σ ρ) (r : Rep X.K F v d) : Q v H := h v F B H (Gr.refl F B) E r
/-- a new tuple -/
theorem PEnd.tup {Q : VK} {p : Addr} {vs : List V} {ds : List D} (h : PEnd X.K σ0 F B σ Q (.val (.tup ds)) ρ) (E : EnvR X.K σ0 F B H σ ρ) (hp : H p = none) (r : RepL X.K F vs ds) : Q (.ref p) (upd H p (.tup vs)) := by
  obtain ⟨hb, hf⟩ := E.hp.none hp
  exact h _ _ _ _ (Gr.new hb hf) (E.new hp) (.tup upd_same (r.mono (Evl.Ex.new hf)))
/-- a new list, owned -/
theorem PEnd.lst {Q : VK} {p : Addr} {vs : List V} {ds : List D} {t : Bool} (h : PEnd X.K σ0 F B σ Q (.own t (.lst ds)) ρ) (E : EnvR X.K σ0 F B H σ ρ) (hp : H p = none) (r : RepL X.K F vs ds) : Q (.ref p) (upd H p (.lst vs)) := by
  obtain ⟨hb, hf⟩ := E.hp.none hp
  exact h _ _ _ _ (Gr.refl F B) (E.newOwn hp) ⟨p, rfl, hb, ⟨vs, upd_same, r⟩, E.res_new hp⟩
theorem dv_op {a b : Expr} {op : Operator} {pos : Pos} {ta tb : DTV} {g : D → D → Option Slot} (ho : OpD X σ0 (binaryOp op) g) (ha : DV X σ0 W a ta) (hb : DV X σ0 W b tb) :
    DE X σ0 W (.BinOp a op b pos) (fun ρ => (ta ρ).bind fun d ρ1 => (tb ρ1).bind fun e ρ2 => opt (g d e) ρ2) := by
  obtain ⟨t, pt, ht⟩ := ha.pf
  obtain ⟨u, pu, hu⟩ := hb.pf
  refine DE.of_run fun pins s σ F B H ρ Q I E q => ?_
  refine wpAny_BinOp (bin pt pu (R := fun x y H2 => ∃ F2 B2 ρ2 d e, EnvR X.K σ0 F2 B2 H2 σ ρ2 ∧ Rep X.K F2 x d ∧ Rep X.K F2 y e ∧ EOk X.K σ0 W F2 B2 σ Q (opt (g d e) ρ2)) I ?_ ?_)
  · refine ht σ F B H ρ _ E (VOk.step q fun d ρ1 v F1 B1 H1 g1 E1 r1 q1 => ?_)
    refine hu σ F1 B1 H1 ρ1 _ E1 (VOk.step (EOk.gr g1 q1) fun e ρ2 w F2 B2 H2 g2 E2 r2 q2 => ?_)
    exact ⟨F2, B2, ρ2, d, e, E2, r1.mono g2.f, r2, EOk.gr g2 q2⟩
  · rintro v u s2 x y H2 I2 rx ry ⟨F2, B2, ρ2, d, e, E2, r1, r2, q2⟩
    cases hg : g d e with
    | none => rw [hg] at q2; exact False.elim q2
    | some sl =>
      rw [hg] at q2
      exact ho pins s2 σ F2 B2 H2 ρ2 x y v u d e sl Q I2 E2 rx ry r1 r2 hg q2
theorem dv_un {a : Expr} {op : UnaryOp} {pos : Pos} {ta : DTV} {g : D → Option Slot} (ho : UnD X σ0 (unaryOp op) g) (ha : DV X σ0 W a ta) :
    DE X σ0 W (.UnaryOp op a pos) (fun ρ => (ta ρ).bind fun d ρ1 => opt (g d) ρ1) := by
  obtain ⟨t, pt, ht⟩ := ha.pf
  refine DE.of_run fun pins s σ F B H ρ Q I E q => ?_
  refine UnaryOp_ (thn (pt.run pins s σ H (fun x H2 => ∃ F2 B2 ρ2 d, EnvR X.K σ0 F2 B2 H2 σ ρ2 ∧ Rep X.K F2 x d ∧ EOk X.K σ0 W F2 B2 σ Q (opt (g d) ρ2)) I ?_) fun v s1 ⟨x, H1, I1, r1, F2, B2, ρ2, d, E2, rr, q2⟩ => ?_)
  · exact ht σ F B H ρ _ E (VOk.step q fun d ρ1 v F1 B1 H1 g1 E1 r1 q1 => ⟨F1, B1, ρ1, d, E1, r1, EOk.gr g1 q1⟩)
  · cases hg : g d with
    | none => rw [hg] at q2; exact False.elim q2
    | some sl =>
      rw [hg] at q2
      exact ho pins s1 σ F2 B2 H1 ρ2 x v d sl Q I1 E2 r1 rr hg q2
/-- names, constants -/
def eVar (i : Nat) : DTV := fun ρ => match ρ[i]? with
  | some (.val d) => .ok d ρ
  | some (.own false d) => .ok d (ρ.set i (.val d))
  | _ => .bad
theorem dv_var (i : Nat) {x : Str} {pos : Pos} (hN : X.N[i]? = some x := by rfl) (hv : Vis X.env.scope x := by first | exact Or.inl rfl | exact Or.inr (Or.inl rfl) | exact Or.inr (Or.inr rfl)) (hd : (x == ("__debug__" : Str)) = false := by decide)
    (hcd : (x == ("__classdict__" : Str)) = false := by decide) : DV X σ0 W (.Name x pos) (eVar i) := by
  refine ⟨⟨tVar i, pe_var hN hv hd hcd, fun σ F B H ρ Q E q => ?_⟩⟩
  unfold eVar at q
  split at q
  · rename_i d hd
    obtain ⟨v, a, r⟩ := E.val i d hd
    exact ⟨v, a, q v F B H (Gr.refl F B) E r⟩
  · rename_i d hd
    obtain ⟨p, o, a, g, E1, r⟩ := E.freeze hd
    exact ⟨.ref p, a, q _ _ _ _ g E1 r⟩
  · exact False.elim q
def eC (d : D) : DTV := fun ρ => .ok d ρ
theorem dv_int {i : Int} {j pos} : DV X σ0 W (.Constant (.int i) j pos) (eC (.int i)) := ⟨⟨_, pe_int, fun σ F B H ρ Q E q => q _ F B H (Gr.refl F B) E (.int i)⟩⟩
theorem dv_bl {b : Bool} {j pos} : DV X σ0 W (.Constant (.bool b) j pos) (eC (.bl b)) := ⟨⟨_, pe_bl, fun σ F B H ρ Q E q => q _ F B H (Gr.refl F B) E (.bl b)⟩⟩
theorem dv_non {j pos} : DV X σ0 W (.Constant .none j pos) (eC .non) := ⟨⟨_, pe_non, fun σ F B H ρ Q E q => q _ F B H (Gr.refl F B) E .non⟩⟩
theorem dv_str {x : Str} {j pos} : DV X σ0 W (.Constant (.str x) j pos) (eC (.str x)) := ⟨⟨_, pe_str, fun σ F B H ρ Q E q => q _ F B H (Gr.refl F B) E (.str x)⟩⟩
/-- a module's constant -/
theorem dv_glob {x : Str} {v : V} {u : Value} {d : D} {pos : Pos} (hm : X.mg x = some u) (r : RelV v u) (rd : ∀ F, Rep X.K F v d) (hg : Gl X x := by rfl) (hd : (x == ("__debug__" : Str)) = false := by decide) : DV X σ0 W (.Name x pos) (eC d) :=
  ⟨⟨_, pe_glob hg hm r hd, fun σ F B H ρ Q E q => q _ F B H (Gr.refl F B) E (rd F)⟩⟩

/-! ### arithmetic, joins -/
def addD : D → D → Option Slot
  | .int i, .int j => some (.val (.int (i + j)))
  | .str x, .str y => if x.length + y.length ≤ sizeLine then some (.val (.str (x ++ y))) else none
  | .lst xs, .lst ys => if xs.length + ys.length ≤ sizeLine then some (.own false (.lst (xs ++ ys))) else none
  | .tup xs, .tup ys => if xs.length + ys.length ≤ sizeLine then some (.val (.tup (xs ++ ys))) else none
  | .scr ns, .lst ys => if ns.length + ys.length ≤ sizeLine then some (.own false (.lst (ns.map D.int ++ ys))) else none
  | _, _ => none
theorem EnvR.up (E : EnvR X.K σ0 F B H σ ρ) {a : Addr} {u : HO} (h : F a = some u) : H a = some u := E.hp.bh _ _ (E.hp.fb _ _ h)
theorem EnvR.st (E : EnvR X.K σ0 F B H σ ρ) {a : Addr} {u : List V} (h : F a = some (.tup u)) : SqT X.K H a u := .inl (.inl (E.up h))
theorem EnvR.sl (E : EnvR X.K σ0 F B H σ ρ) {a : Addr} {u : List V} (h : F a = some (.lst u)) : SqL X.K H a u := .inl (.inl (E.up h))
theorem EnvR.sq (E : EnvR X.K σ0 F B H σ ρ) {a : Addr} {u : List V} (h : SqL X.K F a u) : SqL X.K H a u := SqL.ex (fun b o q => E.hp.bh _ _ (E.hp.fb _ _ q)) h
theorem RepL.ints {K : Fg} {F : Hp} : ∀ ns : List Int, RepL K F (ns.map V.int) (ns.map D.int)
  | [] => .nil
  | n :: r => .cons (.int n) (RepL.ints r)
theorem op_addD : OpD X σ0 (binaryOp .Add) addD := by
  intro pins s σ F B H ρ x y v u d e sl Q I E rx ry r1 r2 hg q
  unfold addD at hg
  split at hg
  · cases hg
    cases r1
    cases r2
    exact op_add pins s σ H _ _ v u Q I rx ry ⟨_, _, rfl, rfl, q.val E (.int _)⟩
  · split at hg
    · rename_i hz
      cases hg
      cases r1
      cases r2
      exact op_add_str pins s σ H _ _ v u Q I rx ry ⟨_, _, rfl, rfl, hz, q.val E (.str _)⟩
    · cases hg
  · split at hg
    · rename_i hz
      cases hg
      cases r1 with
      | lst h1 l1 =>
        cases r2 with
        | lst h2 l2 =>
          have k1 := l1.length
          have k2 := l2.length
          exact op_cat pins s σ H _ _ v u Q I rx ry ⟨_, _, _, _, rfl, rfl, E.up h1, E.up h2, by omega, fun p hp => q.lst E hp (l1.append l2)⟩
    · cases hg
  · split at hg
    · rename_i hz
      cases hg
      cases r1 with
      | tup h1 l1 =>
        cases r2 with
        | tup h2 l2 =>
          have k1 := l1.length
          have k2 := l2.length
          refine op_catA pins s σ H _ _ v u Q I rx ry ⟨_, _, _, _, rfl, rfl, E.st h1, E.st h2, by omega, fun z => ?_, fun z1 z2 => ?_, fun z1 z2 p hp => ?_⟩
          · subst z
            cases l1
            exact q.val E (.tup h2 l2)
          · subst z2
            cases l2
            rw [List.append_nil] at q
            exact q.val E (.tup h1 l1)
          · exact q.tup E hp (l1.append l2)
    · cases hg
  · split at hg
    · rename_i hz
      cases hg
      cases r1 with
      | scr h1 =>
        cases r2 with
        | lst h2 l2 =>
          cases rx
          cases ry
          obtain ⟨its, rv, ⟨o1, n, e1, c1, _, dt1⟩, z1⟩ := I.list (E.sq h1)
          obtain ⟨its2, rv2, ⟨o2, n2, e2, c2, _, dt2⟩, z2⟩ := I.list (E.sl h2)
          have len1 := rv.length
          have len2 := rv2.length
          rw [List.length_map] at len1
          have k2 := l2.length
          obtain ⟨cls, dd, data, sl⟩ := o1
          obtain ⟨cls2, dd2, data2, sl2⟩ := o2
          dsimp only at c1 dt1 c2 dt2
          subst c1 dt1 c2 dt2
          refine concat_meets ⟨_, e1, rfl⟩ ⟨_, e2, rfl⟩ noFill_list_add seq_list_add PySem.F.slot_list_add PySem.F.entry_list_add (PySem.F.args_list_add_2 _ _) (list_addW _ _ its.toArray its2.toArray n n2 dd dd2 sl sl2 (by rw [List.size_toArray, List.size_toArray]; omega)) ⟨e1, e2, ?_⟩
          rw [show its.toArray ++ its2.toArray = (its ++ its2).toArray by simp]
          exact ⟨.ref _, _, I.lnew (t' := s.toks) (rv.append rv2) (by rw [List.length_append, List.length_map]; omega), rfl, q.lst E I.fresh ((RepL.ints _).append l2)⟩
    · cases hg
  · cases hg
def subD : D → D → Option Slot
  | .int i, .int j => some (.val (.int (i - j)))
  | _, _ => none
theorem op_subD : OpD X σ0 (binaryOp .Sub) subD := by
  intro pins s σ F B H ρ x y v u d e sl Q I E rx ry r1 r2 hg q
  unfold subD at hg
  split at hg
  · cases hg
    cases r1
    cases r2
    exact op_sub pins s σ H _ _ v u Q I rx ry ⟨_, _, rfl, rfl, q.val E (.int _)⟩
  · cases hg
def mulD : D → D → Option Slot
  | .int i, .int j => if i.natAbs.log2 + j.natAbs.log2 < 1000000 then some (.val (.int (i * j))) else none
  | .lst xs, .int k => if -(2 ^ 63) ≤ k ∧ k < 2 ^ 63 ∧ xs.length * k.toNat ≤ sizeLine then some (.own false (.lst (List.replicate k.toNat xs).flatten)) else none
  | _, _ => none
theorem RepL.flat {K : Fg} {F : Hp} {vs : List V} {ds : List D} (r : RepL K F vs ds) : ∀ n : Nat, RepL K F (List.replicate n vs).flatten (List.replicate n ds).flatten
  | 0 => .nil
  | n + 1 => by
    rw [List.replicate_succ, List.replicate_succ, List.flatten_cons, List.flatten_cons]
    exact r.append (RepL.flat r n)
theorem op_mulD : OpD X σ0 (binaryOp .Mult) mulD := by
  intro pins s σ F B H ρ x y v u d e sl Q I E rx ry r1 r2 hg q
  unfold mulD at hg
  split at hg
  · split at hg
    · rename_i hc
      cases hg
      cases r1
      cases r2
      exact op_mulW pins s σ H _ _ v u Q I rx ry ⟨_, _, rfl, rfl, hc, q.val E (.int _)⟩
    · cases hg
  · split at hg
    · rename_i hc
      obtain ⟨c1, c2, c3⟩ := hc
      cases hg
      cases r1 with
      | lst h1 l1 =>
        cases r2
        have k1 := l1.length
        exact op_rep pins s σ H _ _ v u Q I rx ry ⟨_, _, _, rfl, rfl, E.up h1, c1, c2, by rw [k1]; exact c3, fun p hp => q.lst E hp (l1.flat _)⟩
    · cases hg
  · cases hg
def fdivD : D → D → Option Slot
  | .int i, .int j => if 0 < j ∧ j.natAbs.log2 < 9000 then some (.val (.int (i / j))) else none
  | _, _ => none
theorem op_fdivD : OpD X σ0 (binaryOp .FloorDiv) fdivD := by
  intro pins s σ F B H ρ x y v u d e sl Q I E rx ry r1 r2 hg q
  unfold fdivD at hg
  split at hg
  · split at hg
    · rename_i hc
      cases hg
      cases r1
      cases r2
      exact op_fdivW pins s σ H _ _ v u Q I rx ry ⟨_, _, rfl, rfl, hc, q.val E (.int _)⟩
    · cases hg
  · cases hg
def modD : D → D → Option Slot
  | .int i, .int j => if 0 < j then some (.val (.int (i % j))) else none
  | _, _ => none
theorem op_modD : OpD X σ0 (binaryOp .Mod) modD := by
  intro pins s σ F B H ρ x y v u d e sl Q I E rx ry r1 r2 hg q
  unfold modD at hg
  split at hg
  · split at hg
    · rename_i hc
      cases hg
      cases r1
      cases r2
      exact op_mod pins s σ H _ _ v u Q I rx ry ⟨_, _, rfl, rfl, hc, q.val E (.int _)⟩
    · cases hg
  · cases hg
end
end DL

set_option Elab.async false
set_option linter.all false
set_option maxRecDepth 100000
set_option maxHeartbeats 2000017
namespace DL
open L2 PyProof.Rows PySem PySem.Spec

/-! ### what is read where it stands -/
def BorR (K : Fg) (F H : Hp) (v : V) (d : D) : Prop := Rep K F v d ∨ ∃ p, v = .ref p ∧ OwnR K F H p d
def peek (i : Nat) (ρ : En) : Option D := match ρ[i]? with
  | some (.val d) => some d
  | some (.own _ d) => some d
  | _ => none
section
variable {X : Cx} {σ0 : L2.St} {W : WX} {F B F' B' H H' : Hp} {σ : L2.St} {ρ : En}
theorem EnvR.peek {i : Nat} {d : D} (E : EnvR X.K σ0 F B H σ ρ) (h : peek i ρ = some d) : ∃ v, σ[i]? = some (some v) ∧ BorR X.K F H v d := by
  unfold DL.peek at h
  split at h
  · rename_i d' e
    cases h
    obtain ⟨v, a, r⟩ := E.val i d e
    exact ⟨v, a, .inl r⟩
  · rename_i t d' e
    cases h
    obtain ⟨p, a, b, c, _⟩ := E.own i t d e
    exact ⟨_, a, .inr ⟨p, rfl, c⟩⟩
  · cases h
theorem BorR.lst {v : V} {ds : List D} (E : EnvR X.K σ0 F B H σ ρ) (h : BorR X.K F H v (.lst ds)) : ∃ a vs, v = .ref a ∧ H a = some (.lst vs) ∧ RepL X.K F vs ds := by
  rcases h with h | ⟨p, rfl, vs, a, r⟩
  · cases h with
    | lst h r => exact ⟨_, _, rfl, E.up h, r⟩
  · exact ⟨_, _, rfl, a, r⟩
theorem BorR.dct {v : V} {ds : List (Key × D)} (E : EnvR X.K σ0 F B H σ ρ) (h : BorR X.K F H v (.dct ds)) : ∃ a vs, v = .ref a ∧ H a = some (.dK vs) ∧ RepK X.K F vs ds := by
  rcases h with h | ⟨p, rfl, vs, a, r⟩
  · cases h with
    | dct h r => exact ⟨_, _, rfl, E.up h, r⟩
  · exact ⟨_, _, rfl, a, r⟩
theorem BorR.ins {v : V} {C : Str} {ds : List (Str × D)} (E : EnvR X.K σ0 F B H σ ρ) (h : BorR X.K F H v (.ins C ds)) : ∃ a dx vs, v = .ref a ∧ H a = some (.ins (He.ga X.K C) dx vs) ∧ RepF X.K F vs ds := by
  rcases h with h | ⟨p, rfl, dx, vs, a, r⟩
  · cases h with
    | ins h r => exact ⟨_, _, _, rfl, E.up h, r⟩
  · exact ⟨_, _, _, rfl, a, r⟩

/-! ### x[i] -/
def getD : D → D → Option D
  | .lst xs, .int i => atI xs i
  | .scr ns, .int i => (atI ns i).map D.int
  | .tup xs, .int i => atI xs i
  | .str z, .int i => if z.length ≤ sizeLine then (atI z.cps.toList i).map fun c => .str ⟨#[c]⟩ else none
  | _, _ => none
theorem RepL.atI {K : Fg} {vs : List V} {ds : List D} {i : Int} {d : D} (r : RepL K F vs ds) (h : atI ds i = some d) : ∃ v, atI vs i = some v ∧ Rep K F v d := by
  unfold L2.atI at h ⊢
  rw [r.length]
  cases e : ixN ds.length i with
  | none => rw [e] at h; cases h
  | some j =>
    rw [e] at h
    exact r.get h
/-- by values -/
theorem ix_D {value slice : Expr} {pins : List (Addr × Obj)} {s : Shared} {x y : V} {v u : Value} {d e z : D} {Q : VK} (I : Inv X pins σ H s) (E : EnvR X.K σ0 F B H σ ρ) (rx : RelV x v) (ry : RelV y u)
    (r1 : BorR X.K F H x d) (r2 : Rep X.K F y e) (hg : getD d e = some z) (q : PVal X.K σ0 F B σ Q z ρ) (hs : subscripted slice false v u = operate [v, u] (getItem v u)) :
    wpAny (Mx X) X.A (subscriptTail value slice v u) (EP X pins σ Q) X.xe s := by
  unfold getD at hg
  split at hg
  · obtain ⟨a, vs, rfl, ha, l⟩ := r1.lst E
    cases r2
    obtain ⟨w, hw, rw'⟩ := l.atI hg
    exact ix_list value slice pins s σ H _ _ v u Q I rx ry ⟨_, _, _, _, rfl, rfl, .inl (.inl ha), hw, q w F B H (Gr.refl F B) E rw'⟩ hs
  · rename_i ns i
    rcases r1 with r1 | ⟨p, _, h⟩
    · cases r1 with
      | scr ha =>
        cases r2
        cases hz : L2.atI ns i with
        | none => rw [hz] at hg; cases hg
        | some n =>
          rw [hz] at hg
          cases hg
          have hw : L2.atI (ns.map V.int) i = some (.int n) := by
            unfold L2.atI at hz ⊢
            rw [List.length_map]
            cases e : ixN ns.length i with
            | none => rw [e] at hz; cases hz
            | some j =>
              rw [e] at hz
              have hz2 : ns[j]? = some n := hz
              show (ns.map V.int)[j]? = _
              rw [List.getElem?_map, hz2] <;> rfl
          exact ix_list value slice pins s σ H _ _ v u Q I rx ry ⟨_, _, _, _, rfl, rfl, E.sq ha, hw, q _ F B H (Gr.refl F B) E (.int n)⟩ hs
    · exact h.elim
  · rcases r1 with r1 | ⟨p, _, h⟩
    · cases r1 with
      | tup ha l =>
        cases r2
        obtain ⟨w, hw, rw'⟩ := l.atI hg
        exact ix_tup value slice pins s σ H _ _ v u Q I rx ry ⟨_, _, _, _, rfl, rfl, E.st ha, hw, q w F B H (Gr.refl F B) E rw'⟩ hs
    · exact h.elim
  · split at hg
    · rename_i hz
      rcases r1 with r1 | ⟨p, _, h⟩
      · cases r1
        cases r2
        rename_i zz i
        cases hc : L2.atI zz.cps.toList i with
        | none => rw [hc] at hg; cases hg
        | some c =>
          rw [hc] at hg
          cases hg
          exact ix_str value slice pins s σ H _ _ v u Q I rx ry ⟨_, _, _, rfl, rfl, hz, hc, q _ F B H (Gr.refl F B) E (.str _)⟩ hs
      · exact h.elim
    · cases hg
  · cases hg
theorem dv_ix {a b : Expr} {pos : Pos} {ta tb : DTV} (ha : DV X σ0 W a ta) (hb : DV X σ0 W b tb) (hs : PlainIx b) :
    DV X σ0 W (.Subscript a b pos) (fun ρ => (ta ρ).bind fun d ρ1 => (tb ρ1).bind fun e ρ2 => opt (getD d e) ρ2) := by
  obtain ⟨t, pt, ht⟩ := ha.pf
  obtain ⟨u, pu, hu⟩ := hb.pf
  refine DV.of_run fun pins s σ F B H ρ Q I E q => ?_
  refine Subscript_ (bin pt pu (R := fun x y H2 => ∃ F2 B2 ρ2 d e, EnvR X.K σ0 F2 B2 H2 σ ρ2 ∧ Rep X.K F2 x d ∧ Rep X.K F2 y e ∧ VOk X.K σ0 W F2 B2 σ Q (opt (getD d e) ρ2)) I ?_ ?_)
  · refine ht σ F B H ρ _ E (VOk.step q fun d ρ1 v F1 B1 H1 g1 E1 r1 q1 => ?_)
    refine hu σ F1 B1 H1 ρ1 _ E1 (VOk.step (VOk.gr g1 q1) fun e ρ2 w F2 B2 H2 g2 E2 r2 q2 => ?_)
    exact ⟨F2, B2, ρ2, d, e, E2, r1.mono g2.f, r2, VOk.gr g2 q2⟩
  · rintro v u s2 x y H2 I2 rx ry ⟨F2, B2, ρ2, d, e, E2, r1, r2, q2⟩
    cases hg : getD d e with
    | none => rw [hg] at q2; exact False.elim q2
    | some z =>
      rw [hg] at q2
      exact ix_D I2 E2 rx ry (.inl r1) r2 hg q2 (hs _ _)
/-- of a name: what it names is read where it stands -/
theorem dv_ixB (i : Nat) {x : Str} {b : Expr} {px pos : Pos} {tb : DTV} (hb : DV X σ0 W b tb) (hs : PlainIx b) (hN : X.N[i]? = some x := by rfl) (hv : Vis X.env.scope x := by first | exact Or.inl rfl | exact Or.inr (Or.inl rfl) | exact Or.inr (Or.inr rfl)) (hd : (x == ("__debug__" : Str)) = false := by decide)
    (hcd : (x == ("__classdict__" : Str)) = false := by decide) :
    DV X σ0 W (.Subscript (.Name x px) b pos) (fun ρ => (opt (peek i ρ) ρ).bind fun _ ρ => (tb ρ).bind fun e ρ2 => opt ((peek i ρ2).bind fun d => getD d e) ρ2) := by
  obtain ⟨u, pu, hu⟩ := hb.pf
  refine DV.of_run fun pins s σ F B H ρ Q I E q => ?_
  cases hp : peek i ρ with
  | none => rw [hp] at q; exact False.elim q
  | some d0 =>
    rw [hp] at q
    have q : VOk X.K σ0 W F B σ Q ((tb ρ).bind fun e ρ2 => opt ((peek i ρ2).bind fun d => getD d e) ρ2) := q
    obtain ⟨v0, hv0, _⟩ := E.peek hp
    refine Subscript_ (bin (pe_var (i := i) hN hv hd hcd) pu (R := fun x y H2 => x = v0 ∧ ∃ F2 B2 ρ2 e, EnvR X.K σ0 F2 B2 H2 σ ρ2 ∧ Rep X.K F2 y e ∧ VOk X.K σ0 W F2 B2 σ Q (opt ((peek i ρ2).bind fun d => getD d e) ρ2)) I ?_ ?_)
    · refine ⟨v0, hv0, ?_⟩
      refine hu σ F B H ρ _ E (VOk.step q fun e ρ2 w F2 B2 H2 g2 E2 r2 q2 => ?_)
      exact ⟨rfl, F2, B2, ρ2, e, E2, r2, VOk.gr g2 q2⟩
    · rintro v u s2 x y H2 I2 rx ry ⟨rfl, F2, B2, ρ2, e, E2, r2, q2⟩
      cases hp2 : peek i ρ2 with
      | none => rw [hp2] at q2; exact False.elim q2
      | some d =>
        rw [hp2] at q2
        obtain ⟨v1, hv1, b1⟩ := E2.peek hp2
        rw [hv0] at hv1
        cases hv1
        cases hg : getD d e with
        | none =>
          have q3 : VOk X.K σ0 W F2 B2 σ Q (opt (getD d e) ρ2) := q2
          rw [hg] at q3; exact False.elim q3
        | some z =>
          have q3 : VOk X.K σ0 W F2 B2 σ Q (opt (getD d e) ρ2) := q2
          rw [hg] at q3
          exact ix_D I2 E2 rx ry b1 r2 hg q3 (hs _ _)

/-! ### data as the library's -/
mutual
def D.py : D → Option PyData
  | .non => some .none
  | .bl b => some (.bool b)
  | .int i => some (.int i)
  | .str x => some (.str x)
  | .tup xs => (D.pys xs).map PyData.tuple
  | .lst xs => (D.pys xs).map PyData.list
  | .scr ns => some (.list (ns.map PyData.int))
  | _ => none
def D.pys : List D → Option (List PyData)
  | [] => some []
  | d :: r => match D.py d, D.pys r with
    | some p, some ps => some (p :: ps)
    | _, _ => none
end
theorem DpAll.ints {K : Fg} : ∀ ns : List Int, DpAll K H (ns.map V.int) (ns.map PyData.int)
  | [] => .nil
  | n :: r => .cons (.int n) (DpAll.ints r)
mutual
theorem Rep.dp {K : Fg} (h : Ex F H) : ∀ {v : V} {d : D} {p : PyData}, Rep K F v d → d.py = some p → Dp K H v p
  | _, _, p, .non, e => by cases e; exact .non
  | _, _, p, .bl b, e => by cases e; exact .bl b
  | _, _, p, .int i, e => by cases e; exact .int i
  | _, _, p, .str x, e => by cases e; exact .str x
  | _, _, p, .cls a, e => by cases e
  | _, _, p, .ty n, e => by cases e
  | _, _, p, .tup (ds := ds) ha r, e => by
    unfold D.py at e
    cases q : D.pys ds with
    | none => rw [q] at e; cases e
    | some ps =>
      rw [q] at e
      cases e
      exact .tup (.inl (.inl (h _ _ ha))) (RepL.dp h r q)
  | _, _, p, .lst (ds := ds) ha r, e => by
    unfold D.py at e
    cases q : D.pys ds with
    | none => rw [q] at e; cases e
    | some ps =>
      rw [q] at e
      cases e
      exact .lst (.inl (.inl (h _ _ ha))) (RepL.dp h r q)
  | _, _, p, .scr ha, e => by
    cases e
    exact .lst (SqL.ex h ha) (DpAll.ints _)
  | _, _, p, .dct ha r, e => by cases e
  | _, _, p, .ins ha r, e => by cases e
theorem RepL.dp {K : Fg} (h : Ex F H) : ∀ {vs : List V} {ds : List D} {ps : List PyData}, RepL K F vs ds → D.pys ds = some ps → DpAll K H vs ps
  | _, _, ps, .nil, e => by cases e; exact .nil
  | _, _, ps, .cons (d := d) (ds := ds) r1 r2, e => by
    unfold D.pys at e
    cases q : D.py d with
    | none => rw [q] at e; cases e
    | some p1 =>
      cases q2 : D.pys ds with
      | none => rw [q, q2] at e; cases e
      | some ps2 =>
        rw [q, q2] at e
        cases e
        exact .cons (Rep.dp h r1 q) (RepL.dp h r2 q2)
end
theorem BorR.dp {v : V} {d : D} {p : PyData} (E : EnvR X.K σ0 F B H σ ρ) (h : BorR X.K F H v d) (e : d.py = some p) : Dp X.K H v p := by
  have hu : Ex F H := E.hp.fb.trans E.hp.bh
  rcases h with h | ⟨a, rfl, h⟩
  · exact h.dp hu e
  · cases d with
    | lst ds =>
      obtain ⟨vs, ha, r⟩ := h
      unfold D.py at e
      cases q : D.pys ds with
      | none => rw [q] at e; cases e
      | some ps =>
        rw [q] at e
        cases e
        exact .lst (.inl (.inl ha)) (r.dp hu q)
    | _ => first | exact h.elim | cases e
/-- == of data -/
def eqvD (d e : D) : Option Bool := match d.py, e.py with
  | some p, some q => if SeqAt.shaped p = true ∧ SeqAt.shaped q = true then some (PyData.eqv p q) else none
  | _, _ => none
theorem eqvD_some {d e : D} {b : Bool} (h : eqvD d e = some b) : ∃ p q, d.py = some p ∧ e.py = some q ∧ SeqAt.shaped p = true ∧ SeqAt.shaped q = true ∧ b = PyData.eqv p q := by
  unfold eqvD at h
  split at h
  · rename_i p q h1 h2
    split at h
    · rename_i c
      cases h
      exact ⟨p, q, h1, h2, c.1, c.2, rfl⟩
    · cases h
  · cases h
def blS (b : Option Bool) : Option Slot := b.map fun b => .val (.bl b)
def eqD (d e : D) : Option Slot := blS (eqvD d e)
def neD (d e : D) : Option Slot := blS ((eqvD d e).map not)
theorem op_eqDd (hu : X.A.units + 64 < cLine) : OpD X σ0 (compareOp .Eq) eqD := by
  intro pins s σ F B H ρ x y v u d e sl Q I E rx ry r1 r2 hg q
  unfold eqD blS at hg
  cases h : eqvD d e with
  | none => rw [h] at hg; cases hg
  | some b =>
    rw [h] at hg
    cases hg
    obtain ⟨p1, p2, e1, e2, s1, s2, rfl⟩ := eqvD_some h
    exact op_eqD hu pins s σ H x y v u Q I rx ry ⟨p1, p2, BorR.dp E (.inl r1) e1, BorR.dp E (.inl r2) e2, s1, s2, q.val E (.bl _)⟩
theorem op_neDd (hu : X.A.units + 64 < cLine) : OpD X σ0 (compareOp .NotEq) neD := by
  intro pins s σ F B H ρ x y v u d e sl Q I E rx ry r1 r2 hg q
  unfold neD blS at hg
  cases h : eqvD d e with
  | none => rw [h] at hg; cases hg
  | some b =>
    rw [h] at hg
    cases hg
    obtain ⟨p1, p2, e1, e2, s1, s2, rfl⟩ := eqvD_some h
    exact op_neD hu pins s σ H x y v u Q I rx ry ⟨p1, p2, BorR.dp E (.inl r1) e1, BorR.dp E (.inl r2) e2, s1, s2, q.val E (.bl _)⟩
def cmpI (f : Int → Int → Bool) : D → D → Option Slot
  | .int i, .int j => some (.val (.bl (f i j)))
  | _, _ => none
theorem op_cmpI {op : CmpOp} {f : Int → Int → Bool} (h : OpR X (compareOp op) (rI0 fun i j => .bl (f i j))) : OpD X σ0 (compareOp op) (cmpI f) := by
  intro pins s σ F B H ρ x y v u d e sl Q I E rx ry r1 r2 hg q
  unfold cmpI at hg
  split at hg
  · cases hg
    cases r1
    cases r2
    exact h pins s σ H _ _ v u Q I rx ry ⟨_, _, rfl, rfl, q.val E (.bl _)⟩
  · cases hg
def ltD : D → D → Option Slot := cmpI fun i j => decide (i < j)
def leD : D → D → Option Slot := cmpI fun i j => decide (i ≤ j)
def gtD : D → D → Option Slot := cmpI fun i j => decide (j < i)
def geD : D → D → Option Slot := cmpI fun i j => decide (j ≤ i)
theorem op_ltD : OpD X σ0 (compareOp .Lt) ltD := op_cmpI op_lt
theorem op_leD : OpD X σ0 (compareOp .LtE) leD := op_cmpI op_le
theorem op_gtD : OpD X σ0 (compareOp .Gt) gtD := op_cmpI op_gt
theorem op_geD : OpD X σ0 (compareOp .GtE) geD := op_cmpI op_ge
def D.isNon : D → Bool
  | .non => true
  | _ => false
theorem Rep.isNon {K : Fg} {v : V} {d : D} (h : Rep K F v d) : decide (v = .non) = d.isNon := by
  cases h <;> simp [D.isNon]
def isD : D → D → Option Slot
  | d, .non => some (.val (.bl d.isNon))
  | _, _ => none
def isntD : D → D → Option Slot
  | d, .non => some (.val (.bl (!d.isNon)))
  | _, _ => none
theorem op_isD : OpD X σ0 (compareOp .Is) isD := by
  intro pins s σ F B H ρ x y v u d e sl Q I E rx ry r1 r2 hg q
  unfold isD at hg
  split at hg
  · cases hg
    cases r2
    exact op_isN pins s σ H _ _ v u Q I rx ry ⟨rfl, by rw [r1.isNon]; exact q.val E (.bl _)⟩
  · cases hg
theorem op_isntD : OpD X σ0 (compareOp .IsNot) isntD := by
  intro pins s σ F B H ρ x y v u d e sl Q I E rx ry r1 r2 hg q
  unfold isntD at hg
  split at hg
  · cases hg
    cases r2
    exact op_notN pins s σ H _ _ v u Q I rx ry ⟨rfl, by rw [r1.isNon]; exact q.val E (.bl _)⟩
  · cases hg
def D.flat : D → Bool
  | .non => true
  | .bl _ => true
  | .int _ => true
  | .str _ => true
  | _ => false
def D.feq : D → D → Bool
  | .non, .non => true
  | .bl a, .bl b => a == b
  | .bl a, .int b => (if a then 1 else 0) == b
  | .int a, .bl b => a == (if b then 1 else 0)
  | .int a, .int b => a == b
  | .str a, .str b => a == b
  | _, _ => false
theorem Rep.flat {K : Fg} {v : V} {d : D} (h : Rep K F v d) (f : d.flat = true) : flatV v = true := by
  cases h <;> first | rfl | cases f
theorem Rep.feq {K : Fg} {v w : V} {d e : D} (h : Rep K F v d) (h' : Rep K F w e) (f : d.flat = true) (f' : e.flat = true) : eqV v w = d.feq e := by
  cases h <;> first | (cases h' <;> first | rfl | cases f') | cases f
theorem RepL.allFlat {K : Fg} : ∀ {vs : List V} {ds : List D}, RepL K F vs ds → ds.all D.flat = true → vs.all flatV = true
  | _, _, .nil, _ => rfl
  | _, _, .cons h r, f => by
    rw [List.all_cons, Bool.and_eq_true] at f ⊢
    exact ⟨h.flat f.1, r.allFlat f.2⟩
theorem RepL.inV {K : Fg} {v : V} {d : D} (h : Rep K F v d) (f : d.flat = true) : ∀ {vs : List V} {ds : List D}, RepL K F vs ds → ds.all D.flat = true → inV v vs = ds.any fun y => y.feq d
  | _, _, .nil, _ => rfl
  | _, _, .cons h' r, f' => by
    rw [List.all_cons, Bool.and_eq_true] at f'
    have q := RepL.inV h f r f'.2
    unfold L2.inV at q ⊢
    rw [List.any_cons, List.any_cons, q, h'.feq h f'.1 f]
/-- in -/
def inD : D → D → Option Bool
  | d, .lst xs => if d.flat = true ∧ xs.all D.flat = true then some (xs.any fun y => y.feq d) else none
  | d, .tup xs => if d.flat = true ∧ xs.all D.flat = true then some (xs.any fun y => y.feq d) else none
  | .str c, .str z => match c.cps.toList with
    | [k] => some (decide (k ∈ z.cps.toList))
    | _ => none
  | _, _ => none
theorem in_core {b : Bool} {d e : D} {x y : V} (hi : inD d e = some b) (E : EnvR X.K σ0 F B H σ ρ) (r1 : Rep X.K F x d) (r2 : Rep X.K F y e) :
    (∃ p xs, y = .ref p ∧ (SqL X.K H p xs ∨ SqT X.K H p xs) ∧ flatV x = true ∧ xs.all flatV = true ∧ inV x xs = b) ∨ (∃ (c : Nat) (z : Str), x = .str ⟨#[c]⟩ ∧ y = .str z ∧ decide (c ∈ z.cps.toList) = b) := by
  unfold inD at hi
  split at hi
  · split at hi
    · rename_i c
      cases hi
      cases r2 with
      | lst ha l => exact .inl ⟨_, _, rfl, .inl (E.sl ha), r1.flat c.1, l.allFlat c.2, RepL.inV r1 c.1 l c.2⟩
    · cases hi
  · split at hi
    · rename_i c
      cases hi
      cases r2 with
      | tup ha l => exact .inl ⟨_, _, rfl, .inr (E.st ha), r1.flat c.1, l.allFlat c.2, RepL.inV r1 c.1 l c.2⟩
    · cases hi
  · rename_i c z
    split at hi
    · rename_i k hk
      cases hi
      cases r1
      cases r2
      have ec : c = ⟨#[k]⟩ := by
        obtain ⟨cc⟩ := c
        have : cc = #[k] := by
          apply Array.toList_inj.mp
          simpa using hk
        rw [this]
      subst ec
      exact .inr ⟨_, _, rfl, rfl, rfl⟩
    · cases hi
  · cases hi
def isinD (d e : D) : Option Slot := blS (inD d e)
def notinD (d e : D) : Option Slot := blS ((inD d e).map not)
theorem op_inD : OpD X σ0 (compareOp .In) isinD := by
  intro pins s σ F B H ρ x y v u d e sl Q I E rx ry r1 r2 hg q
  unfold isinD blS at hg
  cases hi : inD d e with
  | none => rw [hi] at hg; cases hg
  | some b =>
    rw [hi] at hg
    cases hg
    rcases in_core hi E r1 r2 with ⟨p, xs, rfl, h1, h2, h3, h4⟩ | ⟨c, z, rfl, rfl, h⟩
    · refine op_in_seq pins s σ H _ _ v u Q I rx ry ⟨_, _, rfl, h1, h2, h3, ?_⟩
      rw [if_neg Bool.false_ne_true, h4]
      exact q.val E (.bl _)
    · refine op_in_sign pins s σ H _ _ v u Q I rx ry ⟨_, _, rfl, rfl, ?_⟩
      rw [h]
      exact q.val E (.bl _)
theorem op_notInD : OpD X σ0 (compareOp .NotIn) notinD := by
  intro pins s σ F B H ρ x y v u d e sl Q I E rx ry r1 r2 hg q
  unfold notinD blS at hg
  cases hi : inD d e with
  | none => rw [hi] at hg; cases hg
  | some b =>
    rw [hi] at hg
    cases hg
    rcases in_core hi E r1 r2 with ⟨p, xs, rfl, h1, h2, h3, h4⟩ | ⟨c, z, rfl, rfl, h⟩
    · refine op_notIn_seq pins s σ H _ _ v u Q I rx ry ⟨_, _, rfl, h1, h2, h3, ?_⟩
      rw [if_pos rfl, h4]
      exact q.val E (.bl _)
    · refine op_notIn_sign pins s σ H _ _ v u Q I rx ry ⟨_, _, rfl, rfl, ?_⟩
      rw [h]
      exact q.val E (.bl _)

/-! ### comparisons, tests -/
def eOp (g : D → D → Option Slot) (ta tb : DTV) : DTE := fun ρ => (ta ρ).bind fun d ρ1 => (tb ρ1).bind fun e ρ2 => opt (g d e) ρ2
theorem dc_cmp {a b : Expr} {op : CmpOp} {ta tb : DTV} {g : D → D → Option Slot} (ho : OpD X σ0 (compareOp op) g) (ha : DV X σ0 W a ta) (hb : DV X σ0 W b tb) :
    ∃ t : TE, PC X op a b t ∧ ∀ σ F B H ρ Q, EnvR X.K σ0 F B H σ ρ → EOk X.K σ0 W F B σ Q (eOp g ta tb ρ) → t σ H Q := by
  obtain ⟨t, pt, ht⟩ := ha.pf
  obtain ⟨u, pu, hu⟩ := hb.pf
  refine ⟨fun σ H Q => ∃ F B ρ, EnvR X.K σ0 F B H σ ρ ∧ EOk X.K σ0 W F B σ Q (eOp g ta tb ρ), ⟨?_⟩, fun σ F B H ρ Q E q => ⟨F, B, ρ, E, q⟩⟩
  rintro pins s σ H Q I ⟨F, B, ρ, E, q⟩
  refine bin pt pu (R := fun x y H2 => ∃ F2 B2 ρ2 d e, EnvR X.K σ0 F2 B2 H2 σ ρ2 ∧ Rep X.K F2 x d ∧ Rep X.K F2 y e ∧ EOk X.K σ0 W F2 B2 σ Q (opt (g d e) ρ2)) I ?_ ?_
  · refine ht σ F B H ρ _ E (VOk.step q fun d ρ1 v F1 B1 H1 g1 E1 r1 q1 => ?_)
    refine hu σ F1 B1 H1 ρ1 _ E1 (VOk.step (EOk.gr g1 q1) fun e ρ2 w F2 B2 H2 g2 E2 r2 q2 => ?_)
    exact ⟨F2, B2, ρ2, d, e, E2, r1.mono g2.f, r2, EOk.gr g2 q2⟩
  · rintro v u s2 x y H2 I2 rx ry ⟨F2, B2, ρ2, d, e, E2, r1, r2, q2⟩
    cases hg : g d e with
    | none => rw [hg] at q2; exact False.elim q2
    | some sl =>
      rw [hg] at q2
      exact ho pins s2 σ F2 B2 H2 ρ2 x y v u d e sl Q I2 E2 rx ry r1 r2 hg q2
theorem dv_cmp {a b : Expr} {op : CmpOp} {pos : Pos} {ta tb : DTV} {g : D → D → Option Slot} (ho : OpD X σ0 (compareOp op) g) (ha : DV X σ0 W a ta) (hb : DV X σ0 W b tb) (hm : behindInMarks op b = false) :
    DE X σ0 W (.Compare a [op] [b] pos) (eOp g ta tb) := by
  obtain ⟨t, pt, ht⟩ := dc_cmp (W := W) ho ha hb
  exact ⟨⟨t, pe_cmp pt hm, ht⟩⟩
/-- a result that is True or False -/
def asBE (o : Oc Slot) : Oc Bool := o.bind fun d ρ => match d with
  | .val (.bl b) => .ok b ρ
  | _ => .bad
theorem asBE_imp {R : VK} {Q : Bool → Hp → Prop} {o : Oc Slot} (q : TOk X.K σ0 W F B σ Q (asBE o)) (i : ∀ b H', Q b H' → R (.bl b) H') : EOk X.K σ0 W F B σ R o := by
  refine q.bind.imp fun sl ρ1 q1 v F' B' H' g e r => ?_
  cases sl with
  | val d =>
    cases d with
    | bl b =>
      cases r
      exact i b H' (q1 F' B' H' g e)
    | _ => exact False.elim q1
  | _ => exact False.elim q1
theorem dt_cmp {a b : Expr} {op : CmpOp} {pos : Pos} {ta tb : DTV} {g : D → D → Option Slot} (ho : OpD X σ0 (compareOp op) g) (ha : DV X σ0 W a ta) (hb : DV X σ0 W b tb) (hm : behindInMarks op b = false) :
    DT X σ0 W (.Compare a [op] [b] pos) (fun ρ => asBE (eOp g ta tb ρ)) := by
  obtain ⟨t, pt, ht⟩ := dc_cmp (W := W) ho ha hb
  exact ⟨⟨_, pt_cmp pt hm, fun σ F B H ρ Q E q => ht σ F B H ρ _ E (asBE_imp q fun b H' q => ⟨b, rfl, q⟩)⟩⟩
/-- a value that is True or False -/
def asB (o : Oc D) : Oc Bool := o.bind fun d ρ => match d with
  | .bl b => .ok b ρ
  | _ => .bad
theorem asB_imp {R : VK} {Q : Bool → Hp → Prop} {o : Oc D} (q : TOk X.K σ0 W F B σ Q (asB o)) (i : ∀ b H', Q b H' → R (.bl b) H') : VOk X.K σ0 W F B σ R o := by
  refine VOk.step q fun d ρ1 v F' B' H' g e r q1 => ?_
  cases d with
  | bl b =>
    cases r
    exact i b H' (q1 F' B' H' g e)
  | _ => exact False.elim q1
theorem dt_val {e : Expr} {te : DTV} (h : DV X σ0 W e te) (he : ∀ whole, isTrue e X.env whole = (do let v ← whole; standAt e.pos; holding [v] (truthy v)) := by intro _; rfl) : DT X σ0 W e (fun ρ => asB (te ρ)) := by
  obtain ⟨t, pt, ht⟩ := h.pf
  exact ⟨⟨_, pt_val pt he, fun σ F B H ρ Q E q => ht σ F B H ρ _ E (asB_imp q fun b H' q => ⟨b, rfl, q⟩)⟩⟩
theorem dt_not {a : Expr} {pos : Pos} {ta : DTT} (ha : DT X σ0 W a ta) : DT X σ0 W (.UnaryOp .Not a pos) (fun ρ => (ta ρ).bind fun b ρ => .ok (!b) ρ) := by
  obtain ⟨t, pt, ht⟩ := ha.pf
  refine ⟨⟨_, pt_not pt, fun σ F B H ρ Q E q => ht σ F B H ρ _ E ?_⟩⟩
  exact q.bind.imp fun b ρ1 q1 F' B' H' g e => q1 F' B' H' g e
/-! ### and, or, if -/
structure DW (X : Cx) (σ0 : L2.St) (W : WX) (e : Expr) (tt : DTT) : Prop where
  pf : ∃ t : TT, PW X e t ∧ ∀ σ F B H ρ Q, EnvR X.K σ0 F B H σ ρ → TOk X.K σ0 W F B σ Q (tt ρ) → t σ H Q
theorem DW.t {e : Expr} {tt : DTT} (h : DW X σ0 W e tt) : DT X σ0 W e tt := by
  obtain ⟨t, pt, ht⟩ := h.pf
  exact ⟨⟨t, pt.pt, ht⟩⟩
def tAnd (ta tb : DTT) : DTT := fun ρ => (ta ρ).bind fun b ρ => if b = true then tb ρ else .ok false ρ
def tOr (ta tb : DTT) : DTT := fun ρ => (ta ρ).bind fun b ρ => if b = true then .ok true ρ else tb ρ
variable {a b : Expr} {rest : List Expr} {pos : Pos} {ta tb : DTT}
theorem dw_and1 (ha : DT X σ0 W a ta) : DW X σ0 W (.BoolOp .And [a] pos) ta := by
  obtain ⟨t, pt, ht⟩ := ha.pf
  exact ⟨⟨t, pw_and1 pt, ht⟩⟩
theorem dw_or1 (ha : DT X σ0 W a ta) : DW X σ0 W (.BoolOp .Or [a] pos) ta := by
  obtain ⟨t, pt, ht⟩ := ha.pf
  exact ⟨⟨t, pw_or1 pt, ht⟩⟩
theorem dw_and (ha : DT X σ0 W a ta) (hb : DW X σ0 W (.BoolOp .And (b :: rest) pos) tb) : DW X σ0 W (.BoolOp .And (a :: b :: rest) pos) (tAnd ta tb) := by
  obtain ⟨t, pt, ht⟩ := ha.pf
  obtain ⟨u, pu, hu⟩ := hb.pf
  refine ⟨⟨_, pw_and pt pu, fun σ F B H ρ Q E q => ht σ F B H ρ _ E (q.bind.imp fun c ρ1 q1 F' B' H' g e => ?_)⟩⟩
  cases c with
  | true => exact iteT (hu σ F' B' H' ρ1 Q e (TOk.gr g q1))
  | false => exact iteF (q1 F' B' H' g e)
theorem dw_or (ha : DT X σ0 W a ta) (hb : DW X σ0 W (.BoolOp .Or (b :: rest) pos) tb) : DW X σ0 W (.BoolOp .Or (a :: b :: rest) pos) (tOr ta tb) := by
  obtain ⟨t, pt, ht⟩ := ha.pf
  obtain ⟨u, pu, hu⟩ := hb.pf
  refine ⟨⟨_, pw_or pt pu, fun σ F B H ρ Q E q => ht σ F B H ρ _ E (q.bind.imp fun c ρ1 q1 F' B' H' g e => ?_)⟩⟩
  cases c with
  | true => exact iteT (q1 F' B' H' g e)
  | false => exact iteF (hu σ F' B' H' ρ1 Q e (TOk.gr g q1))
variable {va vb : DTV}
def vAnd (ta tb : DTV) : DTV := fun ρ => (asB (ta ρ)).bind fun b ρ => if b = true then tb ρ else .ok (.bl false) ρ
def vOr (ta tb : DTV) : DTV := fun ρ => (asB (ta ρ)).bind fun b ρ => if b = true then .ok (.bl true) ρ else tb ρ
def vNot (ta : DTV) : DTV := fun ρ => (asB (ta ρ)).bind fun b ρ => .ok (.bl (!b)) ρ
theorem dv_one {op} (h : DV X σ0 W a va) : DV X σ0 W (.BoolOp op [a] pos) va := by
  obtain ⟨t, pt, ht⟩ := h.pf
  exact ⟨⟨t, pe_one pt, ht⟩⟩
theorem asB_step {β : Type} {P : β → En → Prop} {R : VK} {o : Oc D} {k : Bool → En → Oc β} (q : OOk X.K σ0 W F B σ P ((asB o).bind k))
    (i : ∀ b ρ1 F' B' H', Gr F B F' B' → EnvR X.K σ0 F' B' H' σ ρ1 → OOk X.K σ0 W F B σ P (k b ρ1) → R (.bl b) H') : VOk X.K σ0 W F B σ R o := by
  cases o with
  | ok d ρ1 =>
    cases d with
    | bl b =>
      intro v F' B' H' g e r
      cases r
      exact i b ρ1 F' B' H' g e q
    | _ => exact False.elim q
  | exc x ρ1 => exact q
  | bad => exact q
theorem dv_and (ha : DV X σ0 W a va) (hb : DV X σ0 W (.BoolOp .And (b :: rest) pos) vb) : DV X σ0 W (.BoolOp .And (a :: b :: rest) pos) (vAnd va vb) := by
  obtain ⟨t, pt, ht⟩ := ha.pf
  obtain ⟨u, pu, hu⟩ := hb.pf
  refine ⟨⟨_, pe_and pt pu, fun σ F B H ρ Q E q => ht σ F B H ρ _ E (asB_step q fun c ρ1 F' B' H' g e q1 => ⟨c, rfl, ?_⟩)⟩⟩
  cases c with
  | true => exact iteT (hu σ F' B' H' ρ1 Q e (VOk.gr g q1))
  | false => exact iteF (q1 _ F' B' H' g e (.bl false))
theorem dv_or (ha : DV X σ0 W a va) (hb : DV X σ0 W (.BoolOp .Or (b :: rest) pos) vb) : DV X σ0 W (.BoolOp .Or (a :: b :: rest) pos) (vOr va vb) := by
  obtain ⟨t, pt, ht⟩ := ha.pf
  obtain ⟨u, pu, hu⟩ := hb.pf
  refine ⟨⟨_, pe_or pt pu, fun σ F B H ρ Q E q => ht σ F B H ρ _ E (asB_step q fun c ρ1 F' B' H' g e q1 => ⟨c, rfl, ?_⟩)⟩⟩
  cases c with
  | true => exact iteT (q1 _ F' B' H' g e (.bl true))
  | false => exact iteF (hu σ F' B' H' ρ1 Q e (VOk.gr g q1))
theorem dv_not (ha : DV X σ0 W a va) : DV X σ0 W (.UnaryOp .Not a pos) (vNot va) := by
  obtain ⟨t, pt, ht⟩ := ha.pf
  exact ⟨⟨_, pe_not pt, fun σ F B H ρ Q E q => ht σ F B H ρ _ E (asB_step q fun c ρ1 F' B' H' g e q1 => ⟨c, rfl, q1 _ F' B' H' g e (.bl _)⟩)⟩⟩
def eIf (tc : DTT) (ta tb : DTE) : DTE := fun ρ => (tc ρ).bind fun b ρ => if b = true then ta ρ else tb ρ
theorem de_ifExp {c : Expr} {tc : DTT} {ea eb : DTE} (hc : DT X σ0 W c tc) (ha : DE X σ0 W a ea) (hb : DE X σ0 W b eb) : DE X σ0 W (.IfExp c a b pos) (eIf tc ea eb) := by
  obtain ⟨t, pt, ht⟩ := hc.pf
  obtain ⟨u, pu, hu⟩ := ha.pf
  obtain ⟨w, pw, hw⟩ := hb.pf
  refine ⟨⟨_, pe_ifExp pt pu pw, fun σ F B H ρ Q E q => ht σ F B H ρ _ E (q.bind.imp fun c ρ1 q1 F' B' H' g e => ?_)⟩⟩
  cases c with
  | true => exact iteT (hu σ F' B' H' ρ1 Q e (EOk.gr g q1))
  | false => exact iteF (hw σ F' B' H' ρ1 Q e (EOk.gr g q1))

/-! ### argument lists, displays -/
def aNil : DTA := fun ρ => .ok [] ρ
def aCons (te : DTV) (tr : DTA) : DTA := fun ρ => (te ρ).bind fun d ρ => (tr ρ).bind fun as ρ => .ok (.v d :: as) ρ
/-- what a slot owns is handed on -/
def aOwn (j : Nat) (tr : DTA) : DTA := fun ρ => match ρ[j]? with
  | some (.own _ _) => (tr ρ).bind fun as ρ => .ok (.o j :: as) ρ
  | _ => .bad
variable {e : Expr} {es : List Expr} {te : DTV} {tr : DTA}
theorem ArgR.mono {K : Fg} {v : V} {a : AArg} (e : Ex F F') (h : ArgR K σ F v a) : ArgR K σ F' v a := by
  cases a with
  | v d => exact Rep.mono e h
  | o j => exact h
theorem da_nil : DA X σ0 W [] aNil := ⟨⟨_, pa_nil, fun σ F B H ρ Q E q => q [] F B H (Gr.refl F B) E .nil⟩⟩
theorem AOk.step {β : Type} {P : β → En → Prop} {R : List V → Hp → Prop} {o : Oc (List AArg)} {k : List AArg → En → Oc β} (h : OOk X.K σ0 W F B σ P (o.bind k))
    (i : ∀ as ρ1 vs F' B' H', Gr F B F' B' → EnvR X.K σ0 F' B' H' σ ρ1 → Paired (ArgR X.K σ F') vs as → OOk X.K σ0 W F B σ P (k as ρ1) → R vs H') : AOk X.K σ0 W F B σ R o :=
  h.bind.imp fun d ρ1 q v F' B' H' g e r => i d ρ1 v F' B' H' g e r q
theorem da_cons (he : DV X σ0 W e te) (hr : DA X σ0 W es tr) (hs : starEach (e :: es) X.env = (false, eval e X.env) :: starEach es X.env := by rfl) : DA X σ0 W (e :: es) (aCons te tr) := by
  obtain ⟨t, pt, ht⟩ := he.pf
  obtain ⟨u, pu, hu⟩ := hr.pf
  refine ⟨⟨_, pa_cons pt pu hs, fun σ F B H ρ Q E q => ht σ F B H ρ _ E (VOk.step q fun d ρ1 v F1 B1 H1 g1 E1 r1 q1 => ?_)⟩⟩
  exact hu σ F1 B1 H1 ρ1 _ E1 (AOk.step (AOk.gr g1 q1) fun as ρ2 vs F2 B2 H2 g2 E2 r2 q2 => q2 _ F2 B2 H2 g2 E2 (.cons (Rep.mono g2.f r1) r2))
theorem da_own (j : Nat) {x : Str} {px : Pos} (hr : DA X σ0 W es tr) (hN : X.N[j]? = some x := by rfl) (hv : Vis X.env.scope x := by first | exact Or.inl rfl | exact Or.inr (Or.inl rfl) | exact Or.inr (Or.inr rfl)) (hd : (x == ("__debug__" : Str)) = false := by decide)
    (hcd : (x == ("__classdict__" : Str)) = false := by decide) (hs : starEach (.Name x px :: es) X.env = (false, eval (.Name x px) X.env) :: starEach es X.env := by rfl) : DA X σ0 W (.Name x px :: es) (aOwn j tr) := by
  obtain ⟨u, pu, hu⟩ := hr.pf
  refine ⟨⟨_, pa_cons (pe_var (i := j) hN hv hd hcd) pu hs, fun σ F B H ρ Q E q => ?_⟩⟩
  unfold aOwn at q
  split at q
  · rename_i t d hj
    obtain ⟨p, a, b, c, w⟩ := E.own j t d hj
    refine ⟨_, a, ?_⟩
    exact hu σ F B H ρ _ E (AOk.step q fun as ρ2 vs F2 B2 H2 g2 E2 r2 q2 => q2 _ F2 B2 H2 g2 E2 (.cons a r2))
  · exact False.elim q
/-- the values of a list of arguments all of which are data -/
def datas : List AArg → Option (List D)
  | [] => some []
  | .v d :: r => (datas r).map (d :: ·)
  | .o _ :: _ => none
theorem datas_rep {K : Fg} : ∀ {vs : List V} {as : List AArg} {ds : List D}, Paired (ArgR K σ F) vs as → datas as = some ds → RepL K F vs ds
  | _, _, _, .nil, e => by cases e; exact .nil
  | _, .v d :: r, ds, .cons h t, e => by
    unfold datas at e
    cases q : datas r with
    | none => rw [q] at e; cases e
    | some es =>
      rw [q] at e
      cases e
      exact .cons h (datas_rep t q)
  | _, .o j :: r, ds, .cons h t, e => by cases e
def eTup (ta : DTA) : DTV := fun ρ => (ta ρ).bind fun as ρ => match datas as with
  | some ds => if ds.length ≤ sizeLine then .ok (.tup ds) ρ else .bad
  | none => .bad
def eLst (ta : DTA) : DTE := fun ρ => (ta ρ).bind fun as ρ => match datas as with
  | some ds => if ds.length ≤ sizeLine then .ok (.own false (.lst ds)) ρ else .bad
  | none => .bad
theorem dv_tup {ta : DTA} {x1} (h : DA X σ0 W es ta) : DV X σ0 W (.Tuple es x1 pos) (eTup ta) := by
  obtain ⟨t, pt, ht⟩ := h.pf
  refine ⟨⟨_, pe_tup pt, fun σ F B H ρ Q E q => ht σ F B H ρ _ E (AOk.step q fun as ρ1 vs F1 B1 H1 g1 E1 r1 q1 => ?_)⟩⟩
  cases hd : datas as with
  | none => rw [hd] at q1; exact False.elim q1
  | some ds =>
    rw [hd] at q1
    have rl := datas_rep r1 hd
    by_cases hz : ds.length ≤ sizeLine
    · have q2 : VOk X.K σ0 W F B σ Q (.ok (.tup ds) ρ1) := by
        have q3 : OOk X.K σ0 W F B σ (PVal X.K σ0 F B σ Q) (if ds.length ≤ sizeLine then Oc.ok (D.tup ds) ρ1 else Oc.bad) := q1
        rw [if_pos hz] at q3
        exact q3
      have q4 : PEnd X.K σ0 F1 B1 σ Q (.val (.tup ds)) ρ1 := fun v F2 B2 H2 g2 E2 r2 => q2 v F2 B2 H2 (g1.trans g2) E2 r2
      exact ⟨by rw [rl.length]; exact hz, fun p hp => q4.tup E1 hp rl⟩
    · have q3 : OOk X.K σ0 W F B σ (PVal X.K σ0 F B σ Q) (if ds.length ≤ sizeLine then Oc.ok (D.tup ds) ρ1 else Oc.bad) := q1
      rw [if_neg hz] at q3
      exact False.elim q3
theorem de_lst {ta : DTA} (h : DA X σ0 W es ta) : DE X σ0 W (.List es pos) (eLst ta) := by
  obtain ⟨t, pt, ht⟩ := h.pf
  refine ⟨⟨_, pe_lst pt, fun σ F B H ρ Q E q => ht σ F B H ρ _ E (AOk.step q fun as ρ1 vs F1 B1 H1 g1 E1 r1 q1 => ?_)⟩⟩
  cases hd : datas as with
  | none => rw [hd] at q1; exact False.elim q1
  | some ds =>
    rw [hd] at q1
    have rl := datas_rep r1 hd
    by_cases hz : ds.length ≤ sizeLine
    · have q2 : EOk X.K σ0 W F B σ Q (.ok (.own false (.lst ds)) ρ1) := by
        have q3 : OOk X.K σ0 W F B σ (PEnd X.K σ0 F B σ Q) (if ds.length ≤ sizeLine then Oc.ok (Slot.own false (D.lst ds)) ρ1 else Oc.bad) := q1
        rw [if_pos hz] at q3
        exact q3
      have q4 : PEnd X.K σ0 F1 B1 σ Q (.own false (.lst ds)) ρ1 := fun v F2 B2 H2 g2 E2 r2 => q2 v F2 B2 H2 (g1.trans g2) E2 r2
      exact ⟨by rw [rl.length]; exact hz, fun p hp => q4.lst E1 hp rl⟩
    · have q3 : OOk X.K σ0 W F B σ (PEnd X.K σ0 F B σ Q) (if ds.length ≤ sizeLine then Oc.ok (Slot.own false (D.lst ds)) ρ1 else Oc.bad) := q1
      rw [if_neg hz] at q3
      exact False.elim q3
end
end DL

set_option Elab.async false
set_option linter.all false
set_option maxRecDepth 100000
set_option maxHeartbeats 2000017
namespace DL
open L2 PyProof.Rows PySem PySem.Spec

section
variable {X : Cx} {σ0 : L2.St} {W : WX} {F B F' B' H H' : Hp} {σ σ' : L2.St} {ρ : En} {p : Addr} {o : HO}
/-! ### something owned is held while another thing runs -/
theorem EnvR.hold {K : Fg} (E : EnvR K σ0 F B H σ ρ) (hb : B p = none) (ho : H p = some o) (hn : ∀ (i : Nat) (t : Bool) (d' : D), ρ[i]? = some (.own t d') → σ[i]? ≠ some (some (.ref p))) :
    EnvR K σ0 F (upd B p o) H σ ρ := by
  refine ⟨⟨fun a u q => ?_, fun a u q => ?_⟩, E.len, E.val, fun i t d q => ?_, E.dif⟩
  · have ne : a ≠ p := fun z => by rw [z, E.hp.fnone hb] at q; cases q
    rw [upd_ne ne]
    exact E.hp.fb a u q
  · by_cases z : a = p
    · rw [z, upd_same] at q
      rw [z, ho]
      exact q
    · rw [upd_ne z] at q
      exact E.hp.bh a u q
  · obtain ⟨z, a, b, c, w⟩ := E.own i t d q
    have ne : z ≠ p := fun y => hn i t d q (by rw [a, y])
    exact ⟨z, a, by rw [upd_ne ne]; exact b, c, w⟩
def dele (B : Hp) (p : Addr) : Hp := fun a => if a = p then none else B a
theorem dele_same {B : Hp} {p : Addr} : dele B p p = none := if_pos rfl
theorem dele_ne {B : Hp} {p a : Addr} (h : a ≠ p) : dele B p a = B a := if_neg h
/-- and let go -/
theorem EnvR.letgo {K : Fg} {F1 B1 H1 : Hp} {ρ1 : En} (hb : B p = none) (hf : F p = none) (g : Gr F (upd B p o) F1 B1) (E : EnvR K σ0 F1 B1 H1 σ ρ1) :
    Gr F B F1 (dele B1 p) ∧ EnvR K σ0 F1 (dele B1 p) H1 σ ρ1 ∧ H1 p = some o ∧ dele B1 p p = none ∧ (∀ (i : Nat) (t : Bool) (d' : D), ρ1[i]? = some (.own t d') → σ[i]? ≠ some (some (.ref p))) := by
  have bp : B1 p = some o := g.b p o upd_same
  have fp : F1 p = none := (g.n p (by rw [upd_same]; simp)).trans hf
  have hp : H1 p = some o := E.hp.bh p o bp
  refine ⟨⟨g.f, fun a u q => ?_, fun a q => ?_⟩, ⟨⟨fun a u q => ?_, fun a u q => ?_⟩, E.len, E.val, fun i t d q => ?_, E.dif⟩, hp, dele_same, fun i t d q z => ?_⟩
  · have ne : a ≠ p := fun z => by rw [z, hb] at q; cases q
    rw [dele_ne ne]
    exact g.b a u (by rw [upd_ne ne]; exact q)
  · have ne : a ≠ p := fun z => q (by rw [z]; exact hb)
    exact g.n a (by rw [upd_ne ne]; exact q)
  · have ne : a ≠ p := fun z => by rw [z, fp] at q; cases q
    rw [dele_ne ne]
    exact E.hp.fb a u q
  · by_cases z : a = p
    · rw [z, dele_same] at q; cases q
    · rw [dele_ne z] at q
      exact E.hp.bh a u q
  · obtain ⟨z, a, b, c, w⟩ := E.own i t d q
    have ne : z ≠ p := fun y => by rw [y, bp] at b; cases b
    exact ⟨z, a, by rw [dele_ne ne]; exact b, c, w⟩
  · obtain ⟨y, a, b, c, w⟩ := E.own i t d q
    rw [a] at z
    cases z
    rw [bp] at b
    cases b

/-! ### statements -/
def sNext : DTS := fun ρ => .ok .nx ρ
def sSeq (t u : DTS) : DTS := fun ρ => (t ρ).bind fun f ρ => match f with
  | .nx => u ρ
  | f => .ok f ρ
/-- a result into a slot -/
def put (i : Nat) (s : Slot) (ρ : En) : Oc Fl := match ρ[i]? with
  | some (.own true _) => .bad
  | none => .bad
  | _ => match s with
    | .no => .bad
    | .val d => .ok .nx (ρ.set i (.val d))
    | .own _ d => .ok .nx (ρ.set i (.own false d))
def sSet (i : Nat) (te : DTE) : DTS := fun ρ => (te ρ).bind fun s ρ => put i s ρ
theorem put_ok {i : Nat} {s : Slot} {D : Ends} {v : V} (h : SOk X.K σ0 W F B D (put i s ρ)) (E : EnvR X.K σ0 F B H σ ρ) (r : ResR X.K F B H σ ρ v s) : D.nx (σ.set i (some v)) H := by
  unfold put at h
  split at h
  · exact False.elim h
  · exact False.elim h
  · rename_i hn1 hn2
    have hn : ∀ d', ρ[i]? ≠ some (.own true d') := fun d' z => hn1 d' z
    cases s with
    | no => exact False.elim h
    | val d => exact h _ F B H (Gr.refl F B) (E.setVal r hn)
    | own t d =>
      obtain ⟨p, rfl, q⟩ := r
      exact h _ F B H (Gr.refl F B) (E.setOwn ⟨p, rfl, q⟩ hn)
theorem dss_nil : DSs X σ0 W [] sNext := ⟨⟨_, pss_nil, fun σ F B H ρ D E q => q σ F B H (Gr.refl F B) E⟩⟩
theorem dss_cons {st : Stmt} {rest : List Stmt} {t u : DTS} (h1 : DS X σ0 W st t) (h2 : DSs X σ0 W rest u) : DSs X σ0 W (st :: rest) (sSeq t u) := by
  obtain ⟨t1, p1, q1⟩ := h1.pf
  obtain ⟨t2, p2, q2⟩ := h2.pf
  refine ⟨⟨_, pss_cons p1 p2, fun σ F B H ρ D E q => q1 σ F B H ρ _ E ?_⟩⟩
  have q : SOk X.K σ0 W F B D ((t ρ).bind fun f ρ => match f with | .nx => u ρ | f => .ok f ρ) := q
  cases h : t ρ with
  | ok f ρ1 =>
    rw [h] at q
    cases f with
    | nx => exact fun σ' F' B' H' g E' => q2 σ' F' B' H' ρ1 D E' (SOk.gr g q)
    | ret s => exact q
    | brk => exact q
    | ct => exact q
  | exc x ρ1 => rw [h] at q; exact q
  | bad => rw [h] at q; exact q
theorem dss_one {st : Stmt} {t : DTS} (h1 : DS X σ0 W st t) : DSs X σ0 W [st] t := by
  obtain ⟨t1, p1, q1⟩ := h1.pf
  exact ⟨⟨_, pss_one p1, fun σ F B H ρ D E q => q1 σ F B H ρ D E q⟩⟩
variable {e : Expr} {te : DTE} {pos : Pos}
theorem ds_pass : DS X σ0 W (.Pass pos) sNext := ⟨⟨_, ps_pass, fun σ F B H ρ D E q => q σ F B H (Gr.refl F B) E⟩⟩
theorem ds_break : DS X σ0 W (.Break pos) (fun ρ => .ok .brk ρ) := ⟨⟨_, ps_break, fun σ F B H ρ D E q => q σ F B H (Gr.refl F B) E⟩⟩
theorem ds_continue : DS X σ0 W (.Continue pos) (fun ρ => .ok .ct ρ) := ⟨⟨_, ps_continue, fun σ F B H ρ D E q => q σ F B H (Gr.refl F B) E⟩⟩
/-- an expression's outcome, going on as a statement -/
theorem EOk.stmt {Q : VK} {D : Ends} {o : Oc Slot} {k : Slot → En → Oc Fl} (q : SOk X.K σ0 W F B D (o.bind k))
    (i : ∀ s ρ1 v F' B' H', Gr F B F' B' → EnvR X.K σ0 F' B' H' σ ρ1 → ResR X.K F' B' H' σ ρ1 v s → SOk X.K σ0 W F B D (k s ρ1) → Q v H') : EOk X.K σ0 W F B σ Q o :=
  (SOk.of q).imp fun s ρ1 q1 v F' B' H' g E r => i s ρ1 v F' B' H' g E r q1
theorem ds_set (i : Nat) {x : Str} {pos' : Pos} (he : DE X σ0 W e te) (hN : X.N.Nodup) (hi : X.N[i]? = some x := by rfl) (hx : Loc X.env.scope x := by first | exact Or.inl rfl | exact Or.inr rfl) (hs : swapsWith e (some (.Name x pos')) pos.line X.env = pure false := by rfl)
    (hf : X.fn x = true ∨ X.env.scope.names.lookup x = some .local := by first | exact .inl rfl | exact .inr rfl | assumption) : DS X σ0 W (.Assign [.Name x pos'] e pos) (sSet i te) := by
  obtain ⟨t, pt, ht⟩ := he.pf
  refine ⟨⟨_, ps_set hN hi hx pt hs hf, fun σ F B H ρ D E q => ht σ F B H ρ _ E (EOk.stmt q fun s ρ1 v F' B' H' g E1 r q1 => ?_)⟩⟩
  exact put_ok (SOk.gr g q1) E1 r
def sExpr (te : DTE) : DTS := fun ρ => (te ρ).bind fun _ ρ => .ok .nx ρ
theorem ds_expr (he : DE X σ0 W e te) (hs : swapsWith e none pos.line X.env = pure false := by rfl) : DS X σ0 W (.Expr e pos) (sExpr te) := by
  obtain ⟨t, pt, ht⟩ := he.pf
  refine ⟨⟨_, ps_expr pt hs, fun σ F B H ρ D E q => ht σ F B H ρ _ E (EOk.stmt q fun s ρ1 v F' B' H' g E1 r q1 => ?_)⟩⟩
  exact q1 σ F' B' H' g E1
def sRet (te : DTE) : DTS := fun ρ => (te ρ).bind fun s ρ => .ok (.ret s) ρ
theorem ds_ret (he : DE X σ0 W e te) : DS X σ0 W (.Return (some e) pos) (sRet te) := by
  obtain ⟨t, pt, ht⟩ := he.pf
  refine ⟨⟨_, ps_ret pt, fun σ F B H ρ D E q => ht σ F B H ρ _ E (EOk.stmt q fun s ρ1 v F' B' H' g E1 r q1 => ?_)⟩⟩
  exact q1 v σ F' B' H' g E1 r
theorem ds_retN : DS X σ0 W (.Return none pos) (fun ρ => .ok (.ret (.val .non)) ρ) :=
  ⟨⟨_, ps_retN, fun σ F B H ρ D E q => q .non σ F B H (Gr.refl F B) E .non⟩⟩
def sIf (tc : DTT) (t u : DTS) : DTS := fun ρ => (tc ρ).bind fun b ρ => if b = true then t ρ else u ρ
theorem ds_if {c : Expr} {a b : List Stmt} {tc : DTT} {t u : DTS} (hc : DT X σ0 W c tc) (ha : DSs X σ0 W a t) (hb : DSs X σ0 W b u) : DS X σ0 W (.If c a b pos) (sIf tc t u) := by
  obtain ⟨t0, p0, q0⟩ := hc.pf
  obtain ⟨t1, p1, q1⟩ := ha.pf
  obtain ⟨t2, p2, q2⟩ := hb.pf
  refine ⟨⟨_, ps_if p0 p1 p2, fun σ F B H ρ D E q => q0 σ F B H ρ _ E ((SOk.of q).imp fun b ρ1 q3 F' B' H' g E1 => ?_)⟩⟩
  cases b with
  | true => exact iteT (q1 σ F' B' H' ρ1 D E1 (SOk.gr g q3))
  | false => exact iteF (q2 σ F' B' H' ρ1 D E1 (SOk.gr g q3))
/-! ### targets -/
/-- only these slots differ -/
def Only (is : List Nat) (σ σ' : L2.St) : Prop := σ'.length = σ.length ∧ ∀ i, i ∉ is → σ'[i]? = σ[i]?
theorem Only.set {i : Nat} {v : Option V} : Only [i] σ (σ.set i v) := ⟨by rw [List.length_set], fun j h => by
  rw [List.getElem?_set_ne (fun z => h (by rw [z]; exact List.mem_cons_self))]⟩
theorem Only.refl {is : List Nat} : Only is σ σ := ⟨rfl, fun _ _ => rfl⟩
theorem Only.trans {is js : List Nat} {σ1 σ2 σ3 : L2.St} (a : Only is σ1 σ2) (b : Only js σ2 σ3) : Only (is ++ js) σ1 σ3 :=
  ⟨b.1.trans a.1, fun i h => (b.2 i fun z => h (List.mem_append_right _ z)).trans (a.2 i fun z => h (List.mem_append_left _ z))⟩
def GOk (K : Fg) (σ0 : L2.St) (F B : Hp) (σ : L2.St) (is : List Nat) (Q : L2.St → Hp → Prop) : Option En → Prop
  | some ρ => ∀ σ' F' B' H', Gr F B F' B' → EnvR K σ0 F' B' H' σ' ρ → Only is σ σ' → Q σ' H'
  | none => False
theorem GOk.gr {K : Fg} {is : List Nat} {Q : L2.St → Hp → Prop} {o : Option En} (g : Gr F B F' B') (h : GOk K σ0 F B σ is Q o) : GOk K σ0 F' B' σ is Q o := by
  cases o with
  | some ρ => exact fun s F1 B1 H1 g1 E => h s F1 B1 H1 (g.trans g1) E
  | none => exact h
abbrev DTG := D → En → Option En
structure DG (X : Cx) (σ0 : L2.St) (tg : Expr) (is : List Nat) (gt : DTG) : Prop where
  pf : ∃ t : TG, PG X tg t ∧ ∀ σ F B H ρ v d Q, EnvR X.K σ0 F B H σ ρ → Rep X.K F v d → GOk X.K σ0 F B σ is Q (gt d ρ) → t v σ H Q
abbrev DTGs := List D → En → Option En
structure DGs (X : Cx) (σ0 : L2.St) (tg : List Expr) (is : List Nat) (gt : DTGs) : Prop where
  pf : ∃ t : TGs, PGs X tg t ∧ ∀ σ F B H ρ v d Q, EnvR X.K σ0 F B H σ ρ → RepL X.K F v d → GOk X.K σ0 F B σ is Q (gt d ρ) → t v σ H Q
def putV (i : Nat) (d : D) (ρ : En) : Option En := match ρ[i]? with
  | some (.own true _) => none
  | none => none
  | _ => some (ρ.set i (.val d))
theorem dg_name (i : Nat) {x : Str} (hN : X.N.Nodup) (hi : X.N[i]? = some x := by rfl) (hx : Loc X.env.scope x := by first | exact Or.inl rfl | exact Or.inr rfl)
    (hf : X.fn x = true ∨ X.env.scope.names.lookup x = some .local := by first | exact .inl rfl | exact .inr rfl | assumption) : DG X σ0 (.Name x pos) [i] (putV i) := by
  refine ⟨⟨_, pg_name hN hi hx hf, fun σ F B H ρ v d Q E r q => ?_⟩⟩
  unfold putV at q
  split at q
  · exact False.elim q
  · exact False.elim q
  · rename_i hn1 hn2
    exact q _ F B H (Gr.refl F B) (E.setVal r fun d' z => hn1 d' z) Only.set
def gNil : DTGs := fun ds ρ => match ds with
  | [] => some ρ
  | _ => none
def gCons (g : DTG) (gs : DTGs) : DTGs := fun ds ρ => match ds with
  | [] => none
  | d :: r => (g d ρ).bind fun ρ => gs r ρ
theorem dgs_nil : DGs X σ0 [] [] gNil := by
  refine ⟨⟨_, pgs_nil, fun σ F B H ρ v d Q E r q => ?_⟩⟩
  cases r with
  | nil => exact ⟨rfl, q σ F B H (Gr.refl F B) E Only.refl⟩
  | cons h t => exact False.elim q
theorem dgs_cons {es : List Expr} {is js : List Nat} {g : DTG} {gs : DTGs} (h1 : DG X σ0 e is g) (h2 : DGs X σ0 es js gs)
    (hs : (assignEach (e :: es) X.env).map (·.2) = assign e X.env :: (assignEach es X.env).map (·.2) := by rfl) : DGs X σ0 (e :: es) (is ++ js) (gCons g gs) := by
  obtain ⟨t1, p1, q1⟩ := h1.pf
  obtain ⟨t2, p2, q2⟩ := h2.pf
  refine ⟨⟨_, pgs_cons p1 p2 hs, fun σ F B H ρ v d Q E r q => ?_⟩⟩
  cases r with
  | nil => exact False.elim q
  | cons h t =>
    rename_i v0 d0 vs0 ds0
    have q : GOk X.K σ0 F B σ (is ++ js) Q ((g d0 ρ).bind fun ρ => gs ds0 ρ) := q
    refine ⟨_, _, rfl, q1 σ F B H ρ _ _ _ E h ?_⟩
    cases hg : g d0 ρ with
    | some ρ1 =>
      rw [hg] at q
      refine fun σ' F' B' H' g' E' o1 => q2 σ' F' B' H' ρ1 _ _ Q E' (t.mono g'.f) ?_
      have q : GOk X.K σ0 F B σ (is ++ js) Q (gs ds0 ρ1) := q
      cases hg2 : gs ds0 ρ1 with
      | some ρ2 =>
        rw [hg2] at q
        exact fun σ2 F2 B2 H2 g2 E2 o2 => q σ2 F2 B2 H2 (g'.trans g2) E2 (o1.trans o2)
      | none => rw [hg2] at q; exact False.elim q
    | none => rw [hg] at q; exact False.elim q
/-- (a, b, ..) of a tuple, of a list with so many items -/
def gTup (n : Nat) (gs : DTGs) : DTG := fun d ρ => match d with
  | .tup ds => if ds.length = n then gs ds ρ else none
  | _ => none
def gLst (n : Nat) (gs : DTGs) : DTG := fun d ρ => match d with
  | .lst ds => if ds.length = n then gs ds ρ else none
  | _ => none
theorem dg_tup {es : List Expr} {k : Nat} {is : List Nat} {gs : DTGs} {n : Nat} (hc : X.calm = true) (h : DGs X σ0 es is gs)
    (hn : (assignEach es X.env).length = n := by rfl) (hst : (assignEach es X.env).findIdx? (·.1) = none := by rfl) : DG X σ0 (.Tuple es k pos) is (gTup n gs) := by
  obtain ⟨t, pt, ht⟩ := h.pf
  refine ⟨⟨_, pg_tup hc pt hn hst, fun σ F B H ρ v d Q E r q => ?_⟩⟩
  cases r with
  | tup ha l =>
    rename_i a vs ds
    have q : GOk X.K σ0 F B σ is Q (if ds.length = n then gs ds ρ else none) := q
    by_cases hl : ds.length = n
    · rw [if_pos hl] at q
      exact ⟨_, _, rfl, E.st ha, l.length.trans hl, ht σ F B H ρ _ _ Q E l q⟩
    · rw [if_neg hl] at q; exact False.elim q
  | _ => exact False.elim q
theorem dg_lst {es : List Expr} {k : Nat} {is : List Nat} {gs : DTGs} {n : Nat} (hc : X.calm = true) (h : DGs X σ0 es is gs)
    (hn : (assignEach es X.env).length = n := by rfl) (hst : (assignEach es X.env).findIdx? (·.1) = none := by rfl) : DG X σ0 (.Tuple es k pos) is (gLst n gs) := by
  obtain ⟨t, pt, ht⟩ := h.pf
  refine ⟨⟨_, pg_lst hc pt hn hst, fun σ F B H ρ v d Q E r q => ?_⟩⟩
  cases r with
  | lst ha l =>
    rename_i a vs ds
    have q : GOk X.K σ0 F B σ is Q (if ds.length = n then gs ds ρ else none) := q
    by_cases hl : ds.length = n
    · rw [if_pos hl] at q
      exact ⟨_, _, rfl, E.sl ha, l.length.trans hl, ht σ F B H ρ _ _ Q E l q⟩
    · rw [if_neg hl] at q; exact False.elim q
  | _ => exact False.elim q
def nxt (o : Option En) : Oc Fl := match o with
  | some ρ => .ok .nx ρ
  | none => .bad
theorem nxt_ok {D : Ends} {is : List Nat} {o : Option En} (h : SOk X.K σ0 W F B D (nxt o)) : GOk X.K σ0 F B σ is D.nx o := by
  cases o with
  | some ρ => exact fun σ' F' B' H' g E _ => h σ' F' B' H' g E
  | none => exact h
def sAsg (te : DTV) (g : DTG) : DTS := fun ρ => (te ρ).bind fun d ρ => nxt (g d ρ)
theorem ds_asg {tg : Expr} {ve : DTV} {is : List Nat} {g : DTG} (he : DV X σ0 W e ve) (hg : DG X σ0 tg is g) (hs : swapsWithSole [tg] e pos.line X.env = pure false := by rfl) (hw : swappedStores [tg] e X.env = pure none := by rfl)
    (h1 : (assignEach [tg] X.env).map (·.2) = [assign tg X.env] := by rfl) : DS X σ0 W (.Assign [tg] e pos) (sAsg ve g) := by
  obtain ⟨t, pt, ht⟩ := he.pf
  obtain ⟨u, pu, hu⟩ := hg.pf
  refine ⟨⟨_, ps_asg pt pu hs hw h1, fun σ F B H ρ D E q => ht σ F B H ρ _ E ((SOk.of q).imp fun d ρ1 q1 v F' B' H' g' E1 r => ?_)⟩⟩
  exact hu σ F' B' H' ρ1 v d _ E1 r (GOk.gr g' (nxt_ok q1))

/-! ### two values into two names at once; what is new and owned stays owned -/
/-- e1 then e2 as slots -/
def two (ta tb : DTE) (k : Slot → Slot → En → Oc Fl) : DTS := fun ρ => (ta ρ).bind fun s ρ => (tb ρ).bind fun s' ρ => k s s' ρ
def put2 (i j : Nat) (s s' : Slot) (ρ : En) : Oc Fl := (put i s ρ).bind fun _ ρ => put j s' ρ
/-- two results stand apart -/
def Apart (v w : V) (s s' : Slot) : Prop := ∀ p, v = .ref p → w = .ref p → (∃ t d, s = .own t d) → (∃ t d, s' = .own t d) → False
theorem two_ok {ta tb : DTE} {k : Slot → Slot → En → Oc Fl} {D : Ends} {R : V → V → Hp → Prop}
    {u : TE} (hu : ∀ σ F B H ρ Q, EnvR X.K σ0 F B H σ ρ → EOk X.K σ0 W F B σ Q (tb ρ) → u σ H Q) (q : SOk X.K σ0 W F B D (two ta tb k ρ))
    (i : ∀ v w s s' F2 B2 H2 ρ2, EnvR X.K σ0 F2 B2 H2 σ ρ2 → ResR X.K F2 B2 H2 σ ρ2 v s → ResR X.K F2 B2 H2 σ ρ2 w s' → Apart v w s s' → SOk X.K σ0 W F2 B2 D (k s s' ρ2) → R v w H2) :
    EOk X.K σ0 W F B σ (fun v H1 => u σ H1 fun w H2 => R v w H2) (ta ρ) := by
  refine EOk.stmt q fun s ρ1 v F1 B1 H1 g1 E1 r1 q1 => ?_
  cases s with
  | no => exact False.elim r1
  | val d =>
    have r1 : Rep X.K F1 v d := r1
    refine hu σ F1 B1 H1 ρ1 _ E1 (EOk.stmt (SOk.gr g1 q1) fun s' ρ2 w F2 B2 H2 g2 E2 r2 q2 => ?_)
    exact i v w (.val d) s' F2 B2 H2 ρ2 E2 (r1.mono g2.f) r2 (fun p _ _ h _ => by obtain ⟨t, d, z⟩ := h; cases z) (SOk.gr g2 q2)
  | own t d =>
    obtain ⟨p, rfl, hb, ho, hn⟩ := r1
    obtain ⟨o, hp⟩ := ho.there
    have hf := E1.hp.fnone hb
    refine hu σ F1 (upd B1 p o) H1 ρ1 _ (E1.hold hb hp hn) ?_
    cases ht : tb ρ1 with
    | ok s' ρ2 =>
      rw [ht] at q1
      intro w F2 B2 H2 g2 E2 r2
      obtain ⟨g3, E3, p3, b3, n3⟩ := EnvR.letgo hb hf g2 E2
      have b2 : B2 p = some o := g2.b p o upd_same
      have r3 : ResR X.K F2 (dele B2 p) H2 σ ρ2 w s' := by
        cases s' with
        | no => exact r2
        | val d' => exact r2
        | own t' d' =>
          obtain ⟨z, rfl, zb, zo, zn⟩ := r2
          have ne : z ≠ p := fun y => by rw [y, b2] at zb; cases zb
          exact ⟨z, rfl, by rw [dele_ne ne]; exact zb, zo, zn⟩
      refine i (.ref p) w (.own t d) s' F2 (dele B2 p) H2 ρ2 E3 ⟨p, rfl, b3, ho.mono g2.f fun u hu => by rw [hp] at hu; rw [p3]; exact hu, n3⟩ r3 (fun y e1 e2 _ h => ?_) (SOk.gr (g1.trans g3) q1)
      cases e1
      obtain ⟨t', d', rfl⟩ := h
      obtain ⟨z, e3, zb, zo, zn⟩ := r2
      rw [e2] at e3
      cases e3
      rw [b2] at zb
      cases zb
    | exc x ρ2 =>
      rw [ht] at q1
      intro cls d' F2 B2 H2 g2 E2 r2
      obtain ⟨g3, E3, p3, b3, n3⟩ := EnvR.letgo hb hf g2 E2
      exact q1 cls d' σ F2 (dele B2 p) H2 (g1.trans g3) E3 r2
    | bad => rw [ht] at q1; exact False.elim q1
theorem ds_par (i j : Nat) {x y : Str} {a b : Expr} {ta tb : DTE} {px py pt : Pos} {kt k2 pt2} (hc : X.calm = true) (ha : DE X σ0 W a ta) (hb : DE X σ0 W b tb) (hN : X.N.Nodup) (hij : i ≠ j := by decide) (hi : X.N[i]? = some x := by rfl) (hj : X.N[j]? = some y := by rfl)
    (hx : X.env.scope.names.lookup x = some .local := by rfl) (hy : X.env.scope.names.lookup y = some .local := by rfl)
    (hw : swappedStores [.Tuple [.Name x px, .Name y py] kt pt] (.Tuple [a, b] k2 pt2) X.env = pure (some [x, y]) := by rfl)
    (hs : swapsWithSole [.Tuple [.Name x px, .Name y py] kt pt] (.Tuple [a, b] k2 pt2) pos.line X.env = pure false := by rfl)
    (s1 : starEach [a, b] X.env = (false, eval a X.env) :: starEach [b] X.env := by rfl) (s2 : starEach [b] X.env = (false, eval b X.env) :: starEach [] X.env := by rfl) :
    DS X σ0 W (.Assign [.Tuple [.Name x px, .Name y py] kt pt] (.Tuple [a, b] k2 pt2) pos) (two ta tb (put2 i j)) := by
  obtain ⟨t, pt', ht⟩ := ha.pf
  obtain ⟨u, pu, hu⟩ := hb.pf
  refine ⟨⟨_, ps_par hc hN hi hj hij hx hy (pa_cons pt' (pa_cons pu pa_nil s2) s1) hw hs, fun σ F B H ρ D E q => ?_⟩⟩
  refine ht σ F B H ρ _ E (two_ok (W := W) hu q fun v w s s' F2 B2 H2 ρ2 E2 r r' ap q2 => ⟨v, w, rfl, ?_⟩)
  unfold put2 at q2
  -- the first one
  cases hp : put i s ρ2 with
  | bad => rw [hp] at q2; exact False.elim q2
  | exc x ρ3 =>
    unfold put at hp
    split at hp
    · cases hp
    · cases hp
    · cases s <;> cases hp
  | ok f ρ3 =>
    rw [hp] at q2
    have q2 : SOk X.K σ0 W F2 B2 D (put j s' ρ3) := q2
    unfold put at hp
    split at hp
    · cases hp
    · cases hp
    · rename_i hn1 hn2
      have hn : ∀ d', ρ2[i]? ≠ some (.own true d') := fun d' z => hn1 d' z
      have nxt : ∀ {ρ4 : En}, EnvR X.K σ0 F2 B2 H2 (σ.set i (some v)) ρ4 → (∀ (m : Nat) (t : Bool) (d' : DL.D) (p : Addr), ρ4[m]? = some (.own t d') → (σ.set i (some v))[m]? = some (some (.ref p)) → w = .ref p → (∃ t d, s' = .own t d) → False) →
          SOk X.K σ0 W F2 B2 D (put j s' ρ4) → D.nx ((σ.set i (some v)).set j (some w)) H2 := fun {ρ4} E4 hno q4 => by
        refine put_ok q4 E4 ?_
        cases s' with
        | no => exact r'
        | val d => exact r'
        | own t' d' =>
          obtain ⟨z, rfl, zb, zo, zn⟩ := r'
          exact ⟨z, rfl, zb, zo, fun m t d hm hz => hno m t d z hm hz rfl ⟨_, _, rfl⟩⟩
      have old : ∀ (m : Nat) (t : Bool) (d' : DL.D) (p : Addr), ρ2[m]? = some (.own t d') → m ≠ i → (σ.set i (some v))[m]? = some (some (.ref p)) → w = .ref p → (∃ t d, s' = .own t d) → False := fun m t d' p hm hne hz hw hs => by
        rw [List.getElem?_set_ne (Ne.symm hne)] at hz
        obtain ⟨t1, d1, rfl⟩ := hs
        obtain ⟨z, rfl, zb, zo, zn⟩ := r'
        cases hw
        exact zn m t d' hm hz
      cases s with
      | no => cases hp
      | val d =>
        cases hp
        refine nxt (E2.setVal r hn) (fun m t d' p hm hz hw hs => ?_) q2
        rcases get_set hm with ⟨rfl, y⟩ | ⟨n, y⟩
        · cases y
        · exact old m t d' p y n hz hw hs
      | own t0 d =>
        cases hp
        obtain ⟨p0, rfl, pb, po, pn⟩ := r
        refine nxt (E2.setOwn ⟨p0, rfl, pb, po, pn⟩ hn) (fun m t d' p hm hz hw hs => ?_) q2
        rcases get_set hm with ⟨rfl, y⟩ | ⟨n, y⟩
        · have lt : m < σ.length := by
            have := (List.getElem?_eq_some_iff.mp hm).1
            rw [List.length_set] at this
            rw [E2.len]; exact this
          rw [List.getElem?_set_self lt] at hz
          cases hz
          exact ap p0 rfl hw ⟨_, _, rfl⟩ hs
        · exact old m t d' p y n hz hw hs
end
end DL

set_option Elab.async false
set_option linter.all false
set_option maxRecDepth 100000
set_option maxHeartbeats 2000017
namespace DL
open L2 PyProof.Rows PySem PySem.Spec

section
variable {X : Cx} {σ0 : L2.St} {W : WX} {F B F' B' H H' : Hp} {σ σ' : L2.St} {ρ : En} {p : Addr} {o : HO}
/-! ### what is walked -/
/-- an iterator that gives these data, one after the other, whatever else goes on -/
structure JOk (K : Fg) (σ0 : L2.St) (F B : Hp) (J : It) (ds : List D) : Prop where
  go : ∀ i F2 B2 H2, Gr F B F2 B2 → Hps F2 B2 H2 → i < ds.length → J.go i H2
  yld : ∀ i d F2 B2 H2 x H3, Gr F B F2 B2 → Hps F2 B2 H2 → ds[i]? = some d → J.yld i H2 x H3 → ∃ F3 B3, Gr F2 B2 F3 B3 ∧ (∀ σ' ρ', EnvR K σ0 F2 B2 H2 σ' ρ' → EnvR K σ0 F3 B3 H3 σ' ρ') ∧ Rep K F3 x d ∧
    (∀ p o, B2 p = none → H2 p = some o → B3 p = none ∧ H3 p = some o)
  stop : ∀ F2 B2 H2, Gr F B F2 B2 → Hps F2 B2 H2 → J.stop ds.length H2
abbrev DTI := En → Oc (List D)
def PIt (K : Fg) (σ0 : L2.St) (F B : Hp) (σ : L2.St) (R : It → Hp → Prop) (ds : List D) (ρ : En) : Prop := ∀ J F1 B1 H1, Gr F B F1 B1 → EnvR K σ0 F1 B1 H1 σ ρ → JOk K σ0 F1 B1 J ds → R J H1
structure DI (X : Cx) (σ0 : L2.St) (W : WX) (tg iter : Expr) (ti : DTI) : Prop where
  pf : ∃ wi : TI, PI X tg iter wi ∧ ∀ σ F B H ρ R, EnvR X.K σ0 F B H σ ρ → OOk X.K σ0 W F B σ (PIt X.K σ0 F B σ R) (ti ρ) → wi σ H R
theorem JOk.list {K : Fg} {a : Addr} {vs : List V} {ds : List D} (h : F a = some (.lst vs)) (l : RepL K F vs ds) : JOk K σ0 F B (Itl K a) ds := by
  have up : ∀ {F2 B2 H2}, Gr F B F2 B2 → Hps F2 B2 H2 → SqL K H2 a vs := fun g k => .inl (.inl (k.bh _ _ (k.fb _ _ (g.f _ _ h))))
  refine ⟨fun i F2 B2 H2 g k hi => ?_, fun i d F2 B2 H2 x H3 g k hd hy => ?_, fun F2 B2 H2 g k => ?_⟩
  · exact ⟨vs, vs[i]'(by rw [l.length]; exact hi), up g k, by simp⟩
  · obtain ⟨rfl, hx⟩ := hy
    obtain ⟨v, e, r⟩ := l.get hd
    rw [hx vs (up g k)] at e
    cases e
    exact ⟨F2, B2, Gr.refl F2 B2, fun _ _ E => E, r.mono g.f, fun p o hp ho => ⟨hp, ho⟩⟩
  · exact ⟨vs, up g k, by rw [l.length]; exact Nat.le_refl _⟩
theorem JOk.tup {K : Fg} {a : Addr} {vs : List V} {ds : List D} (h : F a = some (.tup vs)) (l : RepL K F vs ds) : JOk K σ0 F B (Itt K a) ds := by
  have up : ∀ {F2 B2 H2}, Gr F B F2 B2 → Hps F2 B2 H2 → SqT K H2 a vs := fun g k => .inl (.inl (k.bh _ _ (k.fb _ _ (g.f _ _ h))))
  refine ⟨fun i F2 B2 H2 g k hi => ?_, fun i d F2 B2 H2 x H3 g k hd hy => ?_, fun F2 B2 H2 g k => ?_⟩
  · exact ⟨vs, vs[i]'(by rw [l.length]; exact hi), up g k, by simp⟩
  · obtain ⟨rfl, hx⟩ := hy
    obtain ⟨v, e, r⟩ := l.get hd
    rw [hx vs (up g k)] at e
    cases e
    exact ⟨F2, B2, Gr.refl F2 B2, fun _ _ E => E, r.mono g.f, fun p o hp ho => ⟨hp, ho⟩⟩
  · exact ⟨vs, up g k, by rw [l.length]; exact Nat.le_refl _⟩
def rng (lo : Int) (n : Nat) : List D := (List.range n).map fun i => .int (lo + (i : Nat))
theorem JOk.rng {K : Fg} {lo : Int} {n : Nat} : JOk K σ0 F B (Itr lo n) (rng lo n) := by
  have len : (DL.rng lo n).length = n := by unfold DL.rng; simp
  refine ⟨fun i F2 B2 H2 g k hi => by rw [len] at hi; exact hi, fun i d F2 B2 H2 x H3 g k hd hy => ?_, fun F2 B2 H2 g k => by rw [len]; exact Nat.le_refl _⟩
  obtain ⟨rfl, rfl⟩ := hy
  unfold DL.rng at hd
  rw [List.getElem?_map] at hd
  cases q : (List.range n)[i]? with
  | none => rw [q] at hd; cases hd
  | some j =>
    rw [q] at hd
    cases hd
    have e : j = i := by
      obtain ⟨h1, h2⟩ := List.getElem?_eq_some_iff.mp q
      simpa using h2.symm
    rw [e]
    exact ⟨F2, B2, Gr.refl F2 B2, fun _ _ E => E, .int _, fun p o hp ho => ⟨hp, ho⟩⟩
theorem new_pair {K : Fg} {T : Addr} {F2 B2 H2 : Hp} {vs : List V} {ds : List D} (k : Hps F2 B2 H2) (hT : H2 T = none) (l : RepL K F2 vs ds) :
    ∃ F3 B3, Gr F2 B2 F3 B3 ∧ (∀ σ' ρ', EnvR K σ0 F2 B2 H2 σ' ρ' → EnvR K σ0 F3 B3 (upd H2 T (.tup vs)) σ' ρ') ∧ Rep K F3 (.ref T) (.tup ds) ∧ (∀ p o, B2 p = none → H2 p = some o → B3 p = none ∧ upd H2 T (.tup vs) p = some o) := by
  obtain ⟨hb, hf⟩ := k.none hT
  refine ⟨upd F2 T (.tup vs), upd B2 T (.tup vs), Gr.new hb hf, fun σ' ρ' E => E.new hT, .tup upd_same (l.mono (Evl.Ex.new hf)), fun p o hp ho => ?_⟩
  have ne : p ≠ T := fun z => by rw [z, hT] at ho; cases ho
  exact ⟨by rw [upd_ne ne]; exact hp, by rw [upd_ne ne]; exact ho⟩
def enums (ds : List D) : List D := ds.zipIdx.map fun p => .tup [.int (p.2 : Nat), p.1]
theorem JOk.enum {K : Fg} {a : Addr} {vs : List V} {ds : List D} (h : F a = some (.lst vs)) (l : RepL K F vs ds) : JOk K σ0 F B (Ite K a) (enums ds) := by
  have up : ∀ {F2 B2 H2}, Gr F B F2 B2 → Hps F2 B2 H2 → SqL K H2 a vs := fun g k => .inl (.inl (k.bh _ _ (k.fb _ _ (g.f _ _ h))))
  have len : (enums ds).length = ds.length := by unfold enums; simp
  refine ⟨fun i F2 B2 H2 g k hi => ?_, fun i d F2 B2 H2 x H3 g k hd hy => ?_, fun F2 B2 H2 g k => ?_⟩
  · rw [len] at hi
    exact ⟨vs, vs[i]'(by rw [l.length]; exact hi), up g k, by simp⟩
  · obtain ⟨T, x', rfl, hT, rfl, hx⟩ := hy
    unfold enums at hd
    rw [List.getElem?_map, List.getElem?_zipIdx] at hd
    cases q : ds[i]? with
    | none => rw [q] at hd; cases hd
    | some d0 =>
      rw [q] at hd
      have e1 : d = .tup [.int ((0 + i : Nat) : Int), d0] := by
        have z := Option.some.inj hd
        exact z.symm
      rw [Nat.zero_add] at e1
      rw [e1]
      obtain ⟨v, e, r⟩ := l.get q
      rw [hx vs (up g k)] at e
      cases e
      exact new_pair k hT (.cons (.int _) (.cons (r.mono g.f) .nil))
  · rw [len]
    exact ⟨vs, up g k, by rw [l.length]; exact Nat.le_refl _⟩
def zips (ds es : List D) : List D := (ds.zip es).map fun p => .tup [p.1, p.2]
theorem JOk.zip {K : Fg} {a b : Addr} {vs ws : List V} {ds es : List D} (h : F a = some (.lst vs)) (l : RepL K F vs ds) (h' : F b = some (.lst ws)) (l' : RepL K F ws es) : JOk K σ0 F B (Itz K a b) (zips ds es) := by
  have up : ∀ {F2 B2 H2}, Gr F B F2 B2 → Hps F2 B2 H2 → SqL K H2 a vs := fun g k => .inl (.inl (k.bh _ _ (k.fb _ _ (g.f _ _ h))))
  have up' : ∀ {F2 B2 H2}, Gr F B F2 B2 → Hps F2 B2 H2 → SqL K H2 b ws := fun g k => .inl (.inl (k.bh _ _ (k.fb _ _ (g.f _ _ h'))))
  have len : (zips ds es).length = min ds.length es.length := by unfold zips; simp
  refine ⟨fun i F2 B2 H2 g k hi => ?_, fun i d F2 B2 H2 x H3 g k hd hy => ?_, fun F2 B2 H2 g k => ?_⟩
  · rw [len] at hi
    exact ⟨vs, ws, vs[i]'(by rw [l.length]; omega), ws[i]'(by rw [l'.length]; omega), up g k, up' g k, by simp, by simp⟩
  · obtain ⟨T, x', y', rfl, hT, rfl, hx, hy⟩ := hy
    unfold zips at hd
    rw [List.getElem?_map] at hd
    cases q : (ds.zip es)[i]? with
    | none => rw [q] at hd; cases hd
    | some d0 =>
      rw [q] at hd
      cases hd
      obtain ⟨q1, q2⟩ := List.getElem?_zip_eq_some.mp q
      obtain ⟨v, e, r⟩ := l.get q1
      obtain ⟨v', e', r'⟩ := l'.get q2
      rw [hx vs (up g k)] at e
      rw [hy ws (up' g k)] at e'
      cases e
      cases e'
      exact new_pair k hT (.cons (r.mono g.f) (.cons (r'.mono g.f) .nil))
  · rw [len]
    refine ⟨vs, ws, up g k, up' g k, ?_⟩
    rw [l.length, l'.length]
    omega
variable {e : Expr} {te : DTV} {tg : Expr} {pos : Pos}
def iLst (te : DTV) : DTI := fun ρ => (te ρ).bind fun d ρ => match d with
  | .lst ds => .ok ds ρ
  | .scr ns => .ok (ns.map D.int) ρ
  | _ => .bad
def iTup (te : DTV) : DTI := fun ρ => (te ρ).bind fun d ρ => match d with
  | .tup ds => .ok ds ρ
  | _ => .bad
theorem di_list (he : DV X σ0 W e te) : DI X σ0 W tg e (fun ρ => (te ρ).bind fun d ρ => match d with | .lst ds => .ok ds ρ | _ => .bad) := by
  obtain ⟨t, pt, ht⟩ := he.pf
  refine ⟨⟨_, pi_list pt, fun σ F B H ρ R E q => ht σ F B H ρ _ E (VOk.step q fun d ρ1 v F1 B1 H1 g1 E1 r1 q1 => ?_)⟩⟩
  cases d with
  | lst ds =>
    cases r1 with
    | lst ha l => exact ⟨_, rfl, ⟨_, E1.sl ha⟩, q1 _ F1 B1 H1 g1 E1 (JOk.list ha l)⟩
  | _ => exact False.elim q1
theorem di_tup (he : DV X σ0 W e te) : DI X σ0 W tg e (iTup te) := by
  obtain ⟨t, pt, ht⟩ := he.pf
  refine ⟨⟨_, pi_tup pt, fun σ F B H ρ R E q => ht σ F B H ρ _ E (VOk.step q fun d ρ1 v F1 B1 H1 g1 E1 r1 q1 => ?_)⟩⟩
  cases d with
  | tup ds =>
    cases r1 with
    | tup ha l => exact ⟨_, rfl, ⟨_, E1.st ha⟩, q1 _ F1 B1 H1 g1 E1 (JOk.tup ha l)⟩
  | _ => exact False.elim q1
/-- range(j), range(i, j) -/
def iRng1 (ta : DTA) : DTI := fun ρ => (ta ρ).bind fun as ρ => match as with
  | [.v (.int j)] => if -(2 ^ 62) ≤ j ∧ j < 2 ^ 62 then .ok (rng 0 j.toNat) ρ else .bad
  | _ => .bad
def iRng2 (ta : DTA) : DTI := fun ρ => (ta ρ).bind fun as ρ => match as with
  | [.v (.int i), .v (.int j)] => if -(2 ^ 62) ≤ i ∧ i < 2 ^ 62 ∧ -(2 ^ 62) ≤ j ∧ j < 2 ^ 62 then .ok (rng i (j - i).toNat) ρ else .bad
  | _ => .bad
theorem di_range1 {a : Expr} {ta : DTA} {p pos : Pos} (hm : X.mg "range" = none) (ha : DA X σ0 W [a] ta) (hg : Gl X "range" := by rfl) (hs : starEach [a] X.env = [(false, eval a X.env)] := by rfl) : DI X σ0 W tg (.Call (.Name "range" p) [a] [] pos) (iRng1 ta) := by
  obtain ⟨t, pt, ht⟩ := ha.pf
  refine ⟨⟨_, pi_range1 hg hm pt hs, fun σ F B H ρ R E q => ht σ F B H ρ _ E (AOk.step q fun as ρ1 vs F1 B1 H1 g1 E1 r1 q1 => ?_)⟩⟩
  split at q1
  · rename_i j
    split at q1
    · rename_i hj
      cases r1 with
      | cons r rr =>
        cases rr
        cases r
        exact ⟨j, rfl, hj.1, hj.2, q1 _ F1 B1 H1 g1 E1 JOk.rng⟩
    · exact False.elim q1
  · exact False.elim q1
theorem di_range2 {a b : Expr} {ta : DTA} {p pos : Pos} (hm : X.mg "range" = none) (ha : DA X σ0 W [a, b] ta) (hg : Gl X "range" := by rfl) (hs : starEach [a, b] X.env = [(false, eval a X.env), (false, eval b X.env)] := by rfl) (hs2 : starEach [b] X.env = [(false, eval b X.env)] := by rfl) :
    DI X σ0 W tg (.Call (.Name "range" p) [a, b] [] pos) (iRng2 ta) := by
  obtain ⟨t, pt, ht⟩ := ha.pf
  refine ⟨⟨_, pi_range2 hg hm pt hs hs2, fun σ F B H ρ R E q => ht σ F B H ρ _ E (AOk.step q fun as ρ1 vs F1 B1 H1 g1 E1 r1 q1 => ?_)⟩⟩
  split at q1
  · rename_i i j
    split at q1
    · rename_i hj
      cases r1 with
      | cons r rr =>
        cases rr with
        | cons r' rr' =>
          cases rr'
          cases r
          cases r'
          exact ⟨i, j, rfl, hj, q1 _ F1 B1 H1 g1 E1 JOk.rng⟩
    · exact False.elim q1
  · exact False.elim q1
def iEnum (ta : DTA) : DTI := fun ρ => (ta ρ).bind fun as ρ => match as with
  | [.v (.lst ds)] => .ok (enums ds) ρ
  | _ => .bad
theorem di_enum {a : Expr} {ta : DTA} {p pos tpos : Pos} {elts : List Expr} {kk : Nat} (hm : X.mg "enumerate" = none) (ha : DA X σ0 W [a] ta) (hg : Gl X "enumerate" := by rfl) (hs : starEach [a] X.env = [(false, eval a X.env)] := by rfl) :
    DI X σ0 W (.Tuple elts kk tpos) (.Call (.Name "enumerate" p) [a] [] pos) (iEnum ta) := by
  obtain ⟨t, pt, ht⟩ := ha.pf
  refine ⟨⟨_, pi_enum hg hm pt hs, fun σ F B H ρ R E q => ht σ F B H ρ _ E (AOk.step q fun as ρ1 vs F1 B1 H1 g1 E1 r1 q1 => ?_)⟩⟩
  split at q1
  · cases r1 with
    | cons r rr =>
      cases rr
      cases r with
      | lst ha l => exact ⟨_, _, rfl, E1.sl ha, q1 _ F1 B1 H1 g1 E1 (JOk.enum ha l)⟩
  · exact False.elim q1
def iZip (ta : DTA) : DTI := fun ρ => (ta ρ).bind fun as ρ => match as with
  | [.v (.lst ds), .v (.lst es)] => .ok (zips ds es) ρ
  | _ => .bad
theorem di_zip {a b : Expr} {ta : DTA} {p pos tpos : Pos} {elts : List Expr} {kk : Nat} (hm : X.mg "zip" = none) (ha : DA X σ0 W [a, b] ta) (hg : Gl X "zip" := by rfl) (hs : starEach [a, b] X.env = (false, eval a X.env) :: starEach [b] X.env := by rfl) (hpl : (backTo pos (starEach [b] X.env)).any (·.1) = false := by rfl) :
    DI X σ0 W (.Tuple elts kk tpos) (.Call (.Name "zip" p) [a, b] [] pos) (iZip ta) := by
  obtain ⟨t, pt, ht⟩ := ha.pf
  refine ⟨⟨_, pi_zip hg hm pt hs hpl, fun σ F B H ρ R E q => ht σ F B H ρ _ E (AOk.step q fun as ρ1 vs F1 B1 H1 g1 E1 r1 q1 => ?_)⟩⟩
  split at q1
  · cases r1 with
    | cons r rr =>
      cases rr with
      | cons r' rr' =>
        cases rr'
        cases r with
        | lst ha l =>
          cases r' with
          | lst ha' l' => exact ⟨_, _, _, _, rfl, E1.sl ha, E1.sl ha', q1 _ F1 B1 H1 g1 E1 (JOk.zip ha l ha' l')⟩
  · exact False.elim q1

/-! ### for -/
def loop (g : DTG) (t : DTS) : List D → En → Oc Fl
  | [], ρ => .ok .nx ρ
  | d :: r, ρ => match g d ρ with
    | none => .bad
    | some ρ1 => match t ρ1 with
      | .ok .nx ρ2 => loop g t r ρ2
      | .ok .ct ρ2 => loop g t r ρ2
      | .ok .brk ρ2 => .ok .nx ρ2
      | .ok (.ret s) ρ2 => .ok (.ret s) ρ2
      | .exc x ρ2 => .exc x ρ2
      | .bad => .bad
def sFor (ti : DTI) (g : DTG) (t : DTS) : DTS := fun ρ => (ti ρ).bind fun ds ρ => loop g t ds ρ
theorem ds_for {iter : Expr} {body : List Stmt} {ti : DTI} {is : List Nat} {g : DTG} {t : DTS} (hp : PassesOwn (model X.prog X.w) X.A X.env X.xe) (hc : X.calm = true) (hi : DI X σ0 W tg iter ti) (hg : DG X σ0 tg is g) (hb : DSs X σ0 W body t) (hs : ∀ x, foldedSetIterable iter X.env x = pure x := by intro _; rfl) :
    DS X σ0 W (.For tg iter body [] pos) (sFor ti g t) := by
  obtain ⟨wi, pw, hw⟩ := hi.pf
  obtain ⟨u, pu, hu⟩ := hg.pf
  obtain ⟨v, pv', hv⟩ := hb.pf
  refine ⟨⟨_, ps_for hp hc pw pu pv' hs, fun σ F B H ρ Dn E q => ?_⟩⟩
  refine hw σ F B H ρ _ E ((SOk.of q).imp fun ds ρ1 q1 J F1 B1 H1 g1 E1 jk => ?_)
  refine ⟨fun i m σ2 H2 => m = ds.length - i ∧ i ≤ ds.length ∧ ∃ F2 B2 ρ2, Gr F1 B1 F2 B2 ∧ EnvR X.K σ0 F2 B2 H2 σ2 ρ2 ∧ SOk X.K σ0 W F2 B2 Dn (loop g t (ds.drop i) ρ2), ⟨ds.length, by simp, Nat.zero_le _, F1, B1, ρ1, Gr.refl F1 B1, E1, SOk.gr g1 q1⟩, ?_⟩
  rintro i m σ2 H2 ⟨rfl, hi, F2, B2, ρ2, g2, E2, q2⟩
  by_cases hlt : i < ds.length
  · rw [List.drop_eq_getElem_cons hlt] at q2
    refine .inr ⟨jk.go i F2 B2 H2 g2 E2.hp hlt, fun σ3 H3 => ∃ F3 B3 ρ3, Gr F1 B1 F3 B3 ∧ EnvR X.K σ0 F3 B3 H3 σ3 ρ3 ∧ SOk X.K σ0 W F3 B3 Dn (loop g t (ds.drop (i + 1)) ρ3), fun σ3 H3 n => ⟨ds.length - (i + 1), by omega, rfl, hlt, n⟩, fun x H3 hy => ?_⟩
    obtain ⟨F3, B3, g3, keep, rx, _⟩ := jk.yld i ds[i] F2 B2 H2 x H3 g2 E2.hp (List.getElem?_eq_getElem hlt) hy
    have E3 := keep _ _ E2
    unfold loop at q2
    refine hu σ2 F3 B3 H3 ρ2 x ds[i] _ E3 rx ?_
    cases hgo : g ds[i] ρ2 with
    | none => rw [hgo] at q2; exact False.elim q2
    | some ρ3 =>
      simp only [hgo] at q2
      intro σ4 F4 B4 H4 g4 E4 _
      refine hv σ4 F4 B4 H4 ρ3 _ E4 ?_
      have q2 := SOk.gr (g3.trans g4) q2
      have g14 : Gr F1 B1 F4 B4 := g2.trans (g3.trans g4)
      cases ht : t ρ3 with
      | ok f ρ4 =>
        simp only [ht] at q2
        cases f with
        | nx => exact fun σ5 F5 B5 H5 g5 E5 => ⟨F5, B5, ρ4, g14.trans g5, E5, SOk.gr g5 q2⟩
        | ct => exact fun σ5 F5 B5 H5 g5 E5 => ⟨F5, B5, ρ4, g14.trans g5, E5, SOk.gr g5 q2⟩
        | brk => exact q2
        | ret s => exact q2
      | exc x ρ4 => simp only [ht] at q2; exact q2
      | bad => simp only [ht] at q2; exact False.elim q2
  · have e : i = ds.length := by omega
    subst e
    rw [List.drop_length] at q2
    exact .inl ⟨jk.stop F2 B2 H2 g2 E2.hp, q2 σ2 F2 B2 H2 (Gr.refl F2 B2) E2⟩

/-! ### while -/
/-- so many turns at most -/
def wloop (c : DTT) (t : DTS) : Nat → En → Oc Fl
  | 0, _ => .bad
  | n + 1, ρ => match c ρ with
    | .ok false ρ1 => .ok .nx ρ1
    | .ok true ρ1 => (match t ρ1 with
      | .ok .nx ρ2 => wloop c t n ρ2
      | .ok .ct ρ2 => wloop c t n ρ2
      | .ok .brk ρ2 => .ok .nx ρ2
      | .ok (.ret s) ρ2 => .ok (.ret s) ρ2
      | .exc x ρ2 => .exc x ρ2
      | .bad => .bad)
    | .exc x ρ1 => .exc x ρ1
    | .bad => .bad
def sWhile (n : En → Nat) (c : DTT) (t : DTS) : DTS := fun ρ => wloop c t (n ρ) ρ
theorem ds_while (n : En → Nat) {c : Expr} {body : List Stmt} {tc : DTT} {t : DTS} (hp : PassesOwn (model X.prog X.w) X.A X.env X.xe) (hc : DT X σ0 W c tc) (hb : DSs X σ0 W body t) : DS X σ0 W (.While c body [] pos) (sWhile n tc t) := by
  obtain ⟨u, pu, hu⟩ := hc.pf
  obtain ⟨v, pv', hv⟩ := hb.pf
  refine ⟨⟨_, ps_while hp pu pv', fun σ F B H ρ Dn E q => ?_⟩⟩
  refine ⟨fun m σ2 H2 => ∃ F2 B2 ρ2, EnvR X.K σ0 F2 B2 H2 σ2 ρ2 ∧ SOk X.K σ0 W F2 B2 Dn (wloop tc t m ρ2), ⟨n ρ, F, B, ρ, E, q⟩, ?_⟩
  rintro m σ2 H2 ⟨F2, B2, ρ2, E2, q2⟩
  cases m with
  | zero => exact False.elim q2
  | succ m =>
    unfold wloop at q2
    refine hu σ2 F2 B2 H2 ρ2 _ E2 ?_
    cases hcc : tc ρ2 with
    | ok b ρ3 =>
      simp only [hcc] at q2
      intro F3 B3 H3 g3 E3
      cases b with
      | false => exact iteF (q2 σ2 F3 B3 H3 g3 E3)
      | true =>
        refine iteT ⟨fun σ5 H5 => ∃ F5 B5 ρ5, EnvR X.K σ0 F5 B5 H5 σ5 ρ5 ∧ SOk X.K σ0 W F5 B5 Dn (wloop tc t m ρ5), fun σ5 H5 nn => ⟨m, Nat.lt_succ_self m, nn⟩, ?_⟩
        refine hv σ2 F3 B3 H3 ρ3 _ E3 ?_
        have q2 := SOk.gr g3 q2
        cases ht : t ρ3 with
        | ok f ρ4 =>
          simp only [ht] at q2
          cases f with
          | nx => exact fun σ5 F5 B5 H5 g5 E5 => ⟨F5, B5, ρ4, E5, SOk.gr g5 q2⟩
          | ct => exact fun σ5 F5 B5 H5 g5 E5 => ⟨F5, B5, ρ4, E5, SOk.gr g5 q2⟩
          | brk => exact q2
          | ret s => exact q2
        | exc x ρ4 =>
          simp only [ht] at q2
          exact q2
        | bad =>
          simp only [ht] at q2
          exact False.elim q2
    | exc x ρ3 =>
      simp only [hcc] at q2
      exact fun cls d F' B' H' g e r => q2 cls d σ2 F' B' H' g e r
    | bad => simp only [hcc] at q2; exact False.elim q2
end
end DL

set_option Elab.async false
set_option linter.all false
set_option maxRecDepth 100000
set_option maxHeartbeats 2000017
namespace DL
open L2 PyProof.Rows PySem PySem.Spec

/-! ### what a def does, as a function of data -/
inductive Out where
  | ret (s : Slot) (os : List Slot) | exc (x : Exn) (os : List Slot) | bad
def OOut (K : Fg) (F B : Hp) (vs : List V) (Q : VK) (E : XK) : Out → Prop
  | .ret s os => ∀ v F' B' H', Gr F B F' B' → EnvR K [] F' B' H' (vs.map some) os → ResR K F' B' H' (vs.map some) os v s → Q v H'
  | .exc x os => ∀ cls d F' B' H', Gr F B F' B' → EnvR K [] F' B' H' (vs.map some) os → ExnR K F' cls d x → E cls d H'
  | .bad => False
/-- the promise of a def that does f -/
def spD (K : Fg) (n : Nat) (f : List Slot → Out) : Sp := fun vs H Q E => ∃ F B args, args.length = n ∧ EnvR K [] F B H (vs.map some) args ∧ OOut K F B vs Q E (f args)

/-- the arguments of a call, at the call -/
def resolve : List AArg → En → Option (List Slot)
  | [], _ => some []
  | .v d :: r, ρ => (resolve r ρ).map (.val d :: ·)
  | .o j :: r, ρ => match ρ[j]? with
    | some (.own _ d) => (resolve r ρ).map (.own false d :: ·)
    | _ => none
def owned : List AArg → List Nat
  | [] => []
  | .v _ :: r => owned r
  | .o j :: r => j :: owned r
def back : List AArg → List Slot → En → Option En
  | [], [], ρ => some ρ
  | .v _ :: r, _ :: os, ρ => back r os ρ
  | .o j :: r, .own _ d :: os, ρ => match ρ[j]? with
    | some (.own t _) => back r os (ρ.set j (.own t d))
    | _ => none
  | _, _, _ => none
def callF (n : Nat) (f : List Slot → Out) (as : List AArg) (ρ : En) : Oc Slot :=
  if (owned as).Nodup ∧ as.length = n then
    match resolve as ρ with
    | some args => (match f args with
      | .ret s os => (match back as os ρ with
        | some ρ' => .ok s ρ'
        | none => .bad)
      | .exc x os => (match back as os ρ with
        | some ρ' => .exc x ρ'
        | none => .bad)
      | .bad => .bad)
    | none => .bad
  else .bad

section
variable {K : Fg} {σ0 : L2.St} {F B F' B' H H' : Hp} {σ : L2.St} {ρ : En}
theorem resolve_at : ∀ {as : List AArg} {args : List Slot} {vs : List V}, resolve as ρ = some args → Paired (ArgR K σ F) vs as →
    args.length = vs.length ∧ ∀ (m : Nat) (s : Slot), args[m]? = some s → (∃ d v, s = .val d ∧ as[m]? = some (.v d) ∧ vs[m]? = some v ∧ Rep K F v d) ∨ (∃ j t d v, s = .own false d ∧ as[m]? = some (.o j) ∧ ρ[j]? = some (.own t d) ∧ vs[m]? = some v ∧ σ[j]? = some (some v))
  | [], args, vs, h, r => by
    cases h
    cases r
    exact ⟨rfl, fun m s e => by simp at e⟩
  | .v d :: as, args, vs, h, r => by
    unfold resolve at h
    cases r with
    | cons r1 r2 =>
      rename_i v vs'
      cases q : resolve as ρ with
      | none => rw [q] at h; cases h
      | some a2 =>
        rw [q] at h
        cases h
        obtain ⟨l, k⟩ := resolve_at q r2
        refine ⟨congrArg (· + 1) l, fun m s e => ?_⟩
        cases m with
        | zero =>
          cases e
          exact .inl ⟨d, v, rfl, rfl, rfl, r1⟩
        | succ m => exact k m s (by simpa using e)
  | .o j :: as, args, vs, h, r => by
    unfold resolve at h
    cases r with
    | cons r1 r2 =>
      rename_i v vs'
      split at h
      · rename_i t d hj
        cases q : resolve as ρ with
        | none => rw [q] at h; cases h
        | some a2 =>
          rw [q] at h
          cases h
          obtain ⟨l, k⟩ := resolve_at q r2
          refine ⟨congrArg (· + 1) l, fun m s e => ?_⟩
          cases m with
          | zero =>
            cases e
            exact .inr ⟨j, t, d, v, rfl, rfl, hj, rfl, r1⟩
          | succ m => exact k m s (by simpa using e)
      · cases h
theorem owned_at : ∀ {as : List AArg} {m : Nat} {j : Nat}, as[m]? = some (.o j) → j ∈ owned as
  | [], m, j, h => by simp at h
  | .v d :: as, 0, j, h => by simp at h
  | .v d :: as, m + 1, j, h => owned_at (as := as) (m := m) (by simpa using h)
  | .o i :: as, 0, j, h => by
    have e : i = j := by simpa using h
    unfold owned
    rw [e]
    exact List.mem_cons_self
  | .o i :: as, m + 1, j, h => by
    unfold owned
    exact List.mem_cons_of_mem _ (owned_at (as := as) (m := m) (by simpa using h))
theorem owned_inj : ∀ {as : List AArg} {m n : Nat} {j : Nat}, (owned as).Nodup → as[m]? = some (.o j) → as[n]? = some (.o j) → m = n
  | [], m, n, j, _, h, _ => by simp at h
  | .v d :: as, 0, n, j, _, h, _ => by simp at h
  | .v d :: as, m + 1, 0, j, _, _, h => by simp at h
  | .v d :: as, m + 1, n + 1, j, nd, h, h' => congrArg (· + 1) (owned_inj (as := as) nd (by simpa using h) (by simpa using h'))
  | .o i :: as, 0, 0, j, _, _, _ => rfl
  | .o i :: as, 0, n + 1, j, nd, h, h' => by
    have e : i = j := by simpa using h
    unfold owned at nd
    have q := owned_at (as := as) (m := n) (j := j) (by simpa using h')
    rw [← e] at q
    exact absurd q (List.nodup_cons.mp nd).1
  | .o i :: as, m + 1, 0, j, nd, h, h' => by
    have e : i = j := by simpa using h'
    unfold owned at nd
    have q := owned_at (as := as) (m := m) (j := j) (by simpa using h)
    rw [← e] at q
    exact absurd q (List.nodup_cons.mp nd).1
  | .o i :: as, m + 1, n + 1, j, nd, h, h' => by
    unfold owned at nd
    exact congrArg (· + 1) (owned_inj (as := as) (List.nodup_cons.mp nd).2 (by simpa using h) (by simpa using h'))
theorem owned_of : ∀ {as : List AArg} {j : Nat}, j ∈ owned as → ∃ m : Nat, as[m]? = some (.o j)
  | [], j, h => by cases h
  | .v d :: as, j, h => by
    obtain ⟨m, q⟩ := owned_of (as := as) h
    exact ⟨m + 1, by simpa using q⟩
  | .o i :: as, j, h => by
    unfold owned at h
    rcases List.mem_cons.mp h with rfl | h
    · exact ⟨0, rfl⟩
    · obtain ⟨m, q⟩ := owned_of (as := as) h
      exact ⟨m + 1, by simpa using q⟩
/-- what is written back: each slot handed on holds what the callee left, all others are as they were -/
theorem back_at : ∀ {as : List AArg} {os : List Slot} {ρ ρ' : En}, (owned as).Nodup → back as os ρ = some ρ' →
    ρ'.length = ρ.length ∧ (∀ i, i ∉ owned as → ρ'[i]? = ρ[i]?) ∧ (∀ (m j : Nat), as[m]? = some (.o j) → ∃ t d t2 d2, ρ[j]? = some (.own t d) ∧ os[m]? = some (.own t2 d2) ∧ ρ'[j]? = some (.own t d2))
  | [], os, ρ, ρ', nd, h => by
    cases os with
    | nil =>
      have e : ρ = ρ' := by simpa [back] using h
      rw [e]
      exact ⟨rfl, fun _ _ => rfl, fun m j q => by simp at q⟩
    | cons a r => cases h
  | .v d :: as, os, ρ, ρ', nd, h => by
    cases os with
    | nil => cases h
    | cons a r =>
      have h : back as r ρ = some ρ' := by
        unfold back at h
        exact h
      obtain ⟨l, k1, k2⟩ := back_at (as := as) nd h
      refine ⟨l, k1, fun m j q => ?_⟩
      cases m with
      | zero => simp at q
      | succ m => exact k2 m j (by simpa using q)
  | .o i :: as, os, ρ, ρ', nd, h => by
    cases os with
    | nil => cases h
    | cons a r =>
      cases a with
      | no => cases h
      | val d => cases h
      | own t2 d2 =>
        unfold back at h
        have nd' : i ∉ owned as ∧ (owned as).Nodup := List.nodup_cons.mp nd
        split at h
        · rename_i t d hi
          have lt : i < ρ.length := (List.getElem?_eq_some_iff.mp hi).1
          obtain ⟨l, k1, k2⟩ := back_at (as := as) nd'.2 h
          rw [List.length_set] at l
          refine ⟨l, fun j hj => ?_, fun m j q => ?_⟩
          · have hj : j ∉ i :: owned as := hj
            simp only [List.mem_cons, not_or] at hj
            rw [k1 j hj.2, List.getElem?_set_ne (fun z => hj.1 z.symm)]
          · cases m with
            | zero =>
              have e : i = j := by simpa using q
              subst e
              refine ⟨t, d, t2, d2, hi, rfl, ?_⟩
              rw [k1 i nd'.1, List.getElem?_set_self lt]
            | succ m =>
              have q : as[m]? = some (.o j) := by simpa using q
              obtain ⟨t', d', t3, d3, a1, a2, a3⟩ := k2 m j q
              have ne : i ≠ j := fun z => nd'.1 (by rw [z]; exact owned_at q)
              rw [List.getElem?_set_ne ne] at a1
              exact ⟨t', d', t3, d3, a1, by simpa using a2, a3⟩
        · cases h
open Classical in
/-- the callee's rest: all but what is handed on -/
noncomputable def restB (H : Hp) (σ : L2.St) (js : List Nat) : Hp := fun a => if ∃ j, j ∈ js ∧ σ[j]? = some (some (.ref a)) then none else H a
open Classical in
noncomputable def backB (B' : Hp) (σ : L2.St) (ρ : En) (js : List Nat) : Hp := fun a => if ∃ i t d, i ∉ js ∧ ρ[i]? = some (.own t d) ∧ σ[i]? = some (some (.ref a)) then none else B' a
theorem restB_in {js : List Nat} {a : Addr} (h : ∃ j, j ∈ js ∧ σ[j]? = some (some (.ref a))) : restB H σ js a = none := by
  unfold restB; rw [if_pos h]
theorem restB_out {js : List Nat} {a : Addr} (h : ¬ ∃ j, j ∈ js ∧ σ[j]? = some (some (.ref a))) : restB H σ js a = H a := by
  unfold restB; rw [if_neg h]
theorem backB_in {js : List Nat} {a : Addr} (h : ∃ i t d, i ∉ js ∧ ρ[i]? = some (.own t d) ∧ σ[i]? = some (some (.ref a))) : backB B' σ ρ js a = none := by
  unfold backB; rw [if_pos h]
theorem backB_out {js : List Nat} {a : Addr} (h : ¬ ∃ i t d, i ∉ js ∧ ρ[i]? = some (.own t d) ∧ σ[i]? = some (some (.ref a))) : backB B' σ ρ js a = B' a := by
  unfold backB; rw [if_neg h]
/-- the call's entry -/
theorem call_in {as : List AArg} {args : List Slot} {vs : List V} (E : EnvR K σ0 F B H σ ρ) (nd : (owned as).Nodup) (hr : resolve as ρ = some args) (r : Paired (ArgR K σ F) vs as) :
    EnvR K [] F (restB H σ (owned as)) H (vs.map some) args := by
  obtain ⟨l, k⟩ := resolve_at hr r
  have isOwn : ∀ a : Addr, (∃ j, j ∈ owned as ∧ σ[j]? = some (some (.ref a))) → B a = none := fun a ⟨j, hj, hs⟩ => by
    obtain ⟨m, q⟩ := owned_of hj
    have lm : m < args.length := by
      rw [l]
      have z := r.length
      have := (List.getElem?_eq_some_iff.mp q).1
      omega
    rcases k m args[m] (List.getElem?_eq_getElem lm) with ⟨d, v, e1, e2, _⟩ | ⟨j', t, d, v, e1, e2, e3, e4, e5⟩
    · rw [q] at e2; cases e2
    · rw [q] at e2
      cases e2
      obtain ⟨p, a1, a2, _⟩ := E.own j t d e3
      rw [hs] at a1
      cases a1
      exact a2
  refine ⟨⟨fun a u q => ?_, fun a u q => ?_⟩, by rw [List.length_map]; exact l.symm, fun m d q => ?_, fun m t d q => ?_, fun m n t t' d d' p q q' c c' => ?_⟩
  · rw [restB_out fun z => by
      have := E.hp.fnone (isOwn a z)
      rw [q] at this
      cases this]
    exact E.hp.bh a u (E.hp.fb a u q)
  · by_cases z : ∃ j, j ∈ owned as ∧ σ[j]? = some (some (.ref a))
    · rw [restB_in z] at q; cases q
    · rw [restB_out z] at q; exact q
  · rcases k m _ q with ⟨d', v, e1, e2, e3, e4⟩ | ⟨j, t, d', v, e1, _⟩
    · cases e1
      exact ⟨v, by rw [List.getElem?_map, e3]; rfl, e4⟩
    · cases e1
  · rcases k m _ q with ⟨d', v, e1, e2, e3, e4⟩ | ⟨j, t', d', v, e1, e2, e3, e4, e5⟩
    · cases e1
    · cases e1
      obtain ⟨p, a1, a2, a3, _⟩ := E.own j t' d e3
      rw [e5] at a1
      cases a1
      exact ⟨p, by rw [List.getElem?_map, e4]; rfl, restB_in ⟨j, owned_at e2, e5⟩, a3, fun z => nomatch z⟩
  · rcases k m _ q with ⟨d1, v, e1, e2, e3, e4⟩ | ⟨j, t1, d1, v, e1, e2, e3, e4, e5⟩
    · cases e1
    · rcases k n _ q' with ⟨d2, v', f1, f2, f3, f4⟩ | ⟨j', t2, d2, v', f1, f2, f3, f4, f5⟩
      · cases f1
      · rw [List.getElem?_map, e4] at c
        rw [List.getElem?_map, f4] at c'
        have ev : v = .ref p := by simpa using c
        have ev' : v' = .ref p := by simpa using c'
        subst ev ev'
        have ej : j = j' := E.dif j j' t1 t2 d1 d2 p e3 f3 e5 f5
        subst ej
        exact owned_inj nd e2 f2
/-- the call's end -/
theorem call_out {as : List AArg} {args os : List Slot} {vs : List V} {ρ' : En} (E : EnvR K σ0 F B H σ ρ) (nd : (owned as).Nodup) (hr : resolve as ρ = some args) (r : Paired (ArgR K σ F) vs as) (hb : back as os ρ = some ρ')
    (g : Gr F (restB H σ (owned as)) F' B') (E' : EnvR K [] F' B' H' (vs.map some) os) :
    Gr F B F' (backB B' σ ρ (owned as)) ∧ EnvR K σ0 F' (backB B' σ ρ (owned as)) H' σ ρ' ∧ ∀ v s, ResR K F' B' H' (vs.map some) os v s → ResR K F' (backB B' σ ρ (owned as)) H' σ ρ' v s := by
  obtain ⟨l, k⟩ := resolve_at hr r
  obtain ⟨bl, b1, b2⟩ := back_at nd hb
  have passed : ∀ (m j : Nat), as[m]? = some (.o j) → ∃ (t : Bool) (d : D) (p : Addr), ρ[j]? = some (.own t d) ∧ σ[j]? = some (some (.ref p)) ∧ vs[m]? = some (.ref p) ∧ B p = none := fun m j q => by
    have lm : m < args.length := by
      rw [l]
      have z := r.length
      have := (List.getElem?_eq_some_iff.mp q).1
      omega
    rcases k m args[m] (List.getElem?_eq_getElem lm) with ⟨d, v, e1, e2, _⟩ | ⟨j', t, d, v, e1, e2, e3, e4, e5⟩
    · rw [q] at e2; cases e2
    · rw [q] at e2
      cases e2
      obtain ⟨p, a1, a2, _⟩ := E.own j t d e3
      rw [e5] at a1
      cases a1
      exact ⟨t, d, p, e3, e5, e4, a2⟩
  -- what the caller owns besides
  have other : ∀ a : Addr, (∃ i t d, i ∉ owned as ∧ ρ[i]? = some (.own t d) ∧ σ[i]? = some (some (.ref a))) → B a = none ∧ F' a = none ∧ ∃ o, H a = some o ∧ B' a = some o ∧ H' a = some o := fun a ⟨i, t, d, hi, e, hs⟩ => by
    obtain ⟨p, a1, a2, a3, _⟩ := E.own i t d e
    rw [hs] at a1
    cases a1
    obtain ⟨o, ho⟩ := a3.there
    have rb : restB H σ (owned as) a = some o := by
      have nn : ¬ ∃ j, j ∈ owned as ∧ σ[j]? = some (some (.ref a)) := fun ⟨j, hj, hz⟩ => by
        obtain ⟨m, q⟩ := owned_of hj
        obtain ⟨t', d', p, f1, f2, f3, f4⟩ := passed m j q
        exact hi (by rw [E.dif i j t t' d d' a e f1 hs hz]; exact hj)
      rw [restB_out nn]
      exact ho
    exact ⟨a2, (g.n a (by rw [rb]; simp)).trans (E.hp.fnone a2), o, ho, g.b a o rb, E'.hp.bh a o (g.b a o rb)⟩
  have passB : ∀ a : Addr, (∃ j, j ∈ owned as ∧ σ[j]? = some (some (.ref a))) → B a = none := fun a ⟨j, hj, hs⟩ => by
    obtain ⟨m, q⟩ := owned_of hj
    obtain ⟨t', d', p, f1, f2, f3, f4⟩ := passed m j q
    rw [hs] at f2
    cases f2
    exact f4
  have gr : Gr F B F' (backB B' σ ρ (owned as)) := by
    refine ⟨g.f, fun a u q => ?_, fun a q => ?_⟩
    · rw [backB_out fun z => by
        have := (other a z).1
        rw [q] at this
        cases this]
      refine g.b a u ?_
      rw [restB_out fun z => by
        have := passB a z
        rw [q] at this
        cases this]
      exact E.hp.bh a u q
    · refine g.n a ?_
      rw [restB_out fun z => q (passB a z)]
      cases q' : B a with
      | none => exact absurd q' q
      | some u => rw [E.hp.bh a u q']; simp
  have env : EnvR K σ0 F' (backB B' σ ρ (owned as)) H' σ ρ' := by
    refine ⟨⟨fun a u q => ?_, fun a u q => ?_⟩, by rw [bl]; exact E.len, fun i d q => ?_, fun i t d q => ?_, fun i j t t' d d' p q q' c c' => ?_⟩
    · rw [backB_out fun z => by
        have := (other a z).2.1
        rw [q] at this
        cases this]
      exact E'.hp.fb a u q
    · by_cases z : ∃ i t d, i ∉ owned as ∧ ρ[i]? = some (.own t d) ∧ σ[i]? = some (some (.ref a))
      · rw [backB_in z] at q; cases q
      · rw [backB_out z] at q
        exact E'.hp.bh a u q
    · by_cases hi : i ∈ owned as
      · obtain ⟨m, q1⟩ := owned_of hi
        obtain ⟨t, d0, t2, d2, a1, a2, a3⟩ := b2 m i q1
        rw [a3] at q
        cases q
      · rw [b1 i hi] at q
        obtain ⟨v, a1, a2⟩ := E.val i d q
        exact ⟨v, a1, a2.mono g.f⟩
    · by_cases hi : i ∈ owned as
      · obtain ⟨m, q1⟩ := owned_of hi
        obtain ⟨t0, d0, t2, d2, a1, a2, a3⟩ := b2 m i q1
        rw [a3] at q
        cases q
        obtain ⟨t1, d1, p, f1, f2, f3, f4⟩ := passed m i q1
        obtain ⟨p', c1, c2, c3, _⟩ := E'.own m t2 d a2
        rw [List.getElem?_map, f3] at c1
        cases c1
        have hs0 : t = true → σ0[i]? = some (some (.ref p)) := fun z => by
          obtain ⟨p2, z1, z2, z3, z4⟩ := E.own i t d0 a1
          rw [f2] at z1
          cases z1
          exact z4 z
        refine ⟨p, f2, ?_, c3, hs0⟩
        by_cases z : ∃ i t d, i ∉ owned as ∧ ρ[i]? = some (.own t d) ∧ σ[i]? = some (some (.ref p))
        · exact backB_in z
        · rw [backB_out z]; exact c2
      · rw [b1 i hi] at q
        obtain ⟨p, a1, a2, a3, a4⟩ := E.own i t d q
        obtain ⟨z1, z2, o, z3, z4, z5⟩ := other p ⟨i, t, d, hi, q, a1⟩
        refine ⟨p, a1, backB_in ⟨i, t, d, hi, q, a1⟩, a3.mono g.f fun u hu => ?_, a4⟩
        rw [z3] at hu
        cases hu
        exact z5
    · have find : ∀ (i : Nat) (t : Bool) (d : D), ρ'[i]? = some (.own t d) → ∃ t2 d2, ρ[i]? = some (.own t2 d2) := fun i t d q => by
        by_cases hi : i ∈ owned as
        · obtain ⟨m, q1⟩ := owned_of hi
          obtain ⟨t0, d0, t2, d2, a1, _⟩ := b2 m i q1
          exact ⟨t0, d0, a1⟩
        · rw [b1 i hi] at q
          exact ⟨t, d, q⟩
      obtain ⟨t1, d1, q1⟩ := find i t d q
      obtain ⟨t2, d2, q2⟩ := find j t' d' q'
      exact E.dif i j _ _ _ _ p q1 q2 c c'
  refine ⟨gr, env, fun v s h => ?_⟩
  cases s with
  | no => exact h
  | val d => exact h
  | own t d =>
    obtain ⟨p, rfl, pb, po, pn⟩ := h
    have nb : ¬ ∃ i t d, i ∉ owned as ∧ ρ[i]? = some (.own t d) ∧ σ[i]? = some (some (.ref p)) := fun z => by
      obtain ⟨_, _, o, _, z4, _⟩ := other p z
      rw [pb] at z4
      cases z4
    refine ⟨p, rfl, by rw [backB_out nb]; exact pb, po, fun i t' d' q hs => ?_⟩
    by_cases hi : i ∈ owned as
    · obtain ⟨m, q1⟩ := owned_of hi
      obtain ⟨t0, d0, t2, d2, a1, a2, a3⟩ := b2 m i q1
      obtain ⟨t1, d1, p', f1, f2, f3, f4⟩ := passed m i q1
      rw [hs] at f2
      cases f2
      exact pn m t2 d2 a2 (by rw [List.getElem?_map, f3]; rfl)
    · rw [b1 i hi] at q
      exact nb ⟨i, t', d', hi, q, hs⟩
end
section
variable {X : Cx} {σ0 : L2.St} {W : WX}
/-- f(e, ..) -/
theorem de_call {k n : Nat} {f : Addr} {fd : FuncData} {ps : List Str} {g : List Slot → Out} {x : Str} {p pos : Pos} {e : Expr} {es : List Expr} {ta : DTA} (G : FnOk X.prog X.w X.K X.mg X.base (L2.CX X.prog X.w) k f fd ps (spD X.K n g)) (hr : Room k X.A) (hm : X.mg x = some (.ref f)) (hk : PySem.W.keepIn X.K (.ref f) = true) (hb : Binds X.K fd ps [])
    (tk : Takes X W) (ha : DA X σ0 W (e :: es) ta) (hg : Gl X x := by rfl) (hdb : (x == ("__debug__" : Str)) = false := by decide) (he : starEach (e :: es) X.env = (false, eval e X.env) :: starEach es X.env := by rfl) (hpl : (backTo pos (starEach es X.env)).any (·.1) = false := by rfl) :
    DE X σ0 W (.Call (.Name x p) (e :: es) [] pos) (fun ρ => (ta ρ).bind fun as ρ => callF n g as ρ) := by
  obtain ⟨t, pt, ht⟩ := ha.pf
  refine ⟨⟨_, pe_callS G hr hg hm hk hb (E := WE W) (passAt tk) pt hdb he hpl, fun σ F B H ρ Q E q => ht σ F B H ρ _ E (AOk.step q fun as ρ1 vs F1 B1 H1 g1 E1 r1 q1 => ?_)⟩⟩
  unfold callF at q1
  split at q1
  · rename_i ndl
    obtain ⟨nd, hn⟩ := ndl
    cases hres : resolve as ρ1 with
    | none => rw [hres] at q1; exact False.elim q1
    | some args =>
      simp only [hres] at q1
      refine ⟨F1, _, args, (resolve_at hres r1).1.trans (r1.length.trans hn), call_in E1 nd hres r1, ?_⟩
      cases hf : g args with
      | bad => simp only [hf] at q1; exact False.elim q1
      | ret s os =>
        simp only [hf] at q1
        cases hbk : back as os ρ1 with
        | none => simp only [hbk] at q1; exact False.elim q1
        | some ρ2 =>
          simp only [hbk] at q1
          intro v F2 B2 H2 g2 E2 r2
          obtain ⟨a1, a2, a3⟩ := call_out E1 nd hres r1 hbk g2 E2
          exact q1 v F2 _ H2 (g1.trans a1) a2 (a3 v s r2)
      | exc x os =>
        simp only [hf] at q1
        cases hbk : back as os ρ1 with
        | none => simp only [hbk] at q1; exact False.elim q1
        | some ρ2 =>
          simp only [hbk] at q1
          intro cls d F2 B2 H2 g2 E2 r2
          obtain ⟨a1, a2, a3⟩ := call_out E1 nd hres r1 hbk g2 E2
          exact q1 cls d F2 _ H2 (g1.trans a1) a2 r2
  · exact False.elim q1
end
end DL

set_option Elab.async false
set_option linter.all false
set_option maxRecDepth 100000
set_option maxHeartbeats 2000017
namespace DL
open L2 PyProof.Rows PySem PySem.Spec

/-! ### a def's body -/
def enter : Slot → Slot
  | .own _ d => .own true d
  | s => s
def outs : List Slot → En → Option (List Slot)
  | [], _ => some []
  | .own _ _ :: r, .own true d :: ρ => (outs r ρ).map (.own false d :: ·)
  | .own _ _ :: _, _ => none
  | _ :: r, _ :: ρ => (outs r ρ).map (.no :: ·)
  | _ :: _, [] => none
def fin (args : List Slot) (o : Oc Fl) : Out := match o with
  | .ok .nx ρ => (match outs args ρ with
    | some os => .ret (.val .non) os
    | none => .bad)
  | .ok (.ret s) ρ => (match outs args ρ with
    | some os => .ret s os
    | none => .bad)
  | .exc x ρ => (match outs args ρ with
    | some os => .exc x os
    | none => .bad)
  | _ => .bad
def runF (m : Nat) (body : DTS) (args : List Slot) : Out := fin args (body (args.map enter ++ List.replicate (m - args.length) .no))
section
variable {K : Fg} {σ0 : L2.St} {F B F' B' H H' : Hp} {σ : L2.St} {ρ : En}
theorem outs_at : ∀ {args os : List Slot} {ρ : En}, outs args ρ = some os → os.length = args.length ∧ ∀ (m : Nat) (s : Slot), os[m]? = some s → s = .no ∨ ∃ d, s = .own false d ∧ ρ[m]? = some (.own true d)
  | [], os, ρ, h => by
    have e : os = [] := by
      cases ρ <;> (unfold outs at h; cases h; rfl)
    subst e
    exact ⟨rfl, fun m s q => by simp at q⟩
  | a :: r, os, [], h => by
    cases a <;> (unfold outs at h; cases h)
  | a :: r, os, b :: ρ, h => by
    have go : ∀ (c : Slot), (c = .no ∨ ∃ d, c = .own false d ∧ b = .own true d) → (outs r ρ).map (c :: ·) = some os → os.length = (a :: r).length ∧ ∀ (m : Nat) (s : Slot), os[m]? = some s → s = .no ∨ ∃ d, s = .own false d ∧ (b :: ρ)[m]? = some (.own true d) := fun c hc q => by
      cases z : outs r ρ with
      | none => rw [z] at q; cases q
      | some o2 =>
        rw [z] at q
        cases q
        obtain ⟨l, k⟩ := outs_at z
        refine ⟨congrArg (· + 1) l, fun m s e => ?_⟩
        cases m with
        | zero =>
          cases e
          rcases hc with h | ⟨d, h, h'⟩
          · exact .inl h
          · exact .inr ⟨d, h, by rw [h']; rfl⟩
        | succ m => exact k m s (by simpa using e)
    cases a with
    | no =>
      unfold outs at h
      exact go .no (.inl rfl) h
    | val d =>
      unfold outs at h
      exact go .no (.inl rfl) h
    | own t d =>
      cases b with
      | no => unfold outs at h; cases h
      | val d' => unfold outs at h; cases h
      | own t' d' =>
        cases t' with
        | false => unfold outs at h; cases h
        | true =>
          unfold outs at h
          exact go (.own false d') (.inr ⟨d', rfl, rfl⟩) h
theorem start_get {N : List Str} {vs : List V} {i : Nat} {v : V} (h : (L2.start N vs)[i]? = some (some v)) : vs[i]? = some v := by
  unfold L2.start at h
  by_cases hi : i < vs.length
  · rw [List.getElem?_append_left (by simpa using hi), List.getElem?_map] at h
    cases e : vs[i]? with
    | none => rw [e] at h; cases h
    | some a => rw [e] at h; cases h; rfl
  · rw [List.getElem?_append_right (by simpa using hi), List.getElem?_replicate] at h
    split at h <;> cases h
theorem enter_len (args : List Slot) (m : Nat) (h : args.length ≤ m) : (args.map enter ++ List.replicate (m - args.length) Slot.no).length = m := by
  rw [List.length_append, List.length_map, List.length_replicate]
  omega
/-- the body's entry -/
theorem body_in {N : List Str} {vs : List V} {args : List Slot} (E : EnvR K [] F B H (vs.map some) args) (hN : vs.length ≤ N.length) : EnvR K (L2.start N vs) F B H (L2.start N vs) (args.map enter ++ List.replicate (N.length - args.length) .no) := by
  have l : vs.length = args.length := by have := E.len; rw [List.length_map] at this; exact this
  have old : ∀ (i : Nat) (s : Slot), (args.map enter ++ List.replicate (N.length - args.length) Slot.no)[i]? = some s → s ≠ .no → ∃ s', args[i]? = some s' ∧ s = enter s' := fun i s h hn => by
    by_cases hi : i < args.length
    · rw [List.getElem?_append_left (by simpa using hi), List.getElem?_map] at h
      cases e : args[i]? with
      | none => rw [e] at h; cases h
      | some a => rw [e] at h; cases h; exact ⟨a, rfl, rfl⟩
    · rw [List.getElem?_append_right (by simpa using hi), List.getElem?_replicate] at h
      split at h
      · cases h; exact absurd rfl hn
      · cases h
  have st : ∀ (i : Nat) (v : V), (vs.map some)[i]? = some (some v) → (L2.start N vs)[i]? = some (some v) := fun i v h => by
    unfold L2.start
    have hi : i < (vs.map some).length := (List.getElem?_eq_some_iff.mp h).1
    rw [List.getElem?_append_left hi]
    exact h
  have ow : ∀ (i : Nat) (t : Bool) (d : D), (args.map enter ++ List.replicate (N.length - args.length) Slot.no)[i]? = some (.own t d) → ∃ t', args[i]? = some (.own t' d) := fun i t d h => by
    obtain ⟨s', a, b⟩ := old i _ h (by simp)
    cases s' with
    | no => cases b
    | val d' => cases b
    | own t' d' => cases b; exact ⟨t', a⟩
  refine ⟨E.hp, ?_, fun i d h => ?_, fun i t d h => ?_, fun i j t t' d d' p h h' c c' => ?_⟩
  · rw [enter_len args N.length (by omega)]
    unfold L2.start
    rw [List.length_append, List.length_map, List.length_replicate]
    omega
  · obtain ⟨s', a, b⟩ := old i _ h (by simp)
    cases s' with
    | no => cases b
    | val d' =>
      cases b
      obtain ⟨v, e, r⟩ := E.val i d a
      exact ⟨v, st i v e, r⟩
    | own t' d' => cases b
  · obtain ⟨t', a⟩ := ow i t d h
    obtain ⟨p, e, b, c, _⟩ := E.own i t' d a
    exact ⟨p, st i _ e, b, c, fun _ => st i _ e⟩
  · obtain ⟨t1, a1⟩ := ow i t d h
    obtain ⟨t2, a2⟩ := ow j t' d' h'
    refine E.dif i j t1 t2 d d' p a1 a2 ?_ ?_
    · rw [List.getElem?_map, start_get c]; rfl
    · rw [List.getElem?_map, start_get c']; rfl
/-- and its end -/
theorem body_out {N : List Str} {vs : List V} {args os : List Slot} (hl : vs.length = args.length) (ho : outs args ρ = some os) (E : EnvR K (L2.start N vs) F B H σ ρ) : EnvR K [] F B H (vs.map some) os ∧ ∀ v s, ResR K F B H σ ρ v s → ResR K F B H (vs.map some) os v s := by
  obtain ⟨l, k⟩ := outs_at ho
  have ow : ∀ (m : Nat) (t : Bool) (d : D), os[m]? = some (.own t d) → t = false ∧ ∃ p, ρ[m]? = some (.own true d) ∧ σ[m]? = some (some (.ref p)) ∧ vs[m]? = some (.ref p) ∧ B p = none ∧ OwnR K F H p d := fun m t d h => by
    rcases k m _ h with z | ⟨d', z, q⟩
    · cases z
    · cases z
      obtain ⟨p, a, b, c, w⟩ := E.own m true d q
      exact ⟨rfl, p, q, a, start_get (w rfl), b, c⟩
  refine ⟨⟨E.hp, by rw [List.length_map, l]; exact hl, fun m d h => ?_, fun m t d h => ?_, fun m n t t' d d' p h h' c c' => ?_⟩, fun v s r => ?_⟩
  · rcases k m _ h with z | ⟨d', z, q⟩ <;> cases z
  · obtain ⟨rfl, p, a, b, c, e, f⟩ := ow m t d h
    exact ⟨p, by rw [List.getElem?_map, c]; rfl, e, f, fun z => nomatch z⟩
  · obtain ⟨rfl, p1, a1, b1, c1, _⟩ := ow m t d h
    obtain ⟨rfl, p2, a2, b2, c2, _⟩ := ow n t' d' h'
    rw [List.getElem?_map, c1] at c
    rw [List.getElem?_map, c2] at c'
    have e1 : p1 = p := by simpa using c
    have e2 : p2 = p := by simpa using c'
    subst e1
    subst e2
    exact E.dif m n _ _ _ _ _ a1 a2 b1 b2
  · cases s with
    | no => exact r
    | val d => exact r
    | own t d =>
      obtain ⟨p, rfl, pb, po, pn⟩ := r
      refine ⟨p, rfl, pb, po, fun m t' d' h c => ?_⟩
      obtain ⟨rfl, p1, a1, b1, c1, _⟩ := ow m t' d' h
      rw [List.getElem?_map, c1] at c
      cases c
      exact pn m _ _ a1 b1
end
section
variable {P : Program} {w : World} {K : Fg} {mg : Str → Option Value} {base : Heap}
abbrev WF (E : XK) : WX := fun cls d _ H => E cls d H
/-- the body's own context -/
abbrev FX (P : Program) (w : World) (K : Fg) (mg : Str → Option Value) (base : Heap) (N : List Str) (qual : Str) (scope : Scope) (f : Addr) (cdv : Value) (A : Around) (outer : List Env) (s : Shared) (H : Hp) (E : XK) : Cx := cxOf (L2.CX P w) P w K mg base N qual scope f cdv A outer s H E
/-- THE RULE for a def -/
theorem fn_ok {x qual : Str} {params : Arguments} {body : List Stmt} {scope : Scope} {dvs : List V} {kws : List (Str × V)} {f : Addr} {fd : FuncData} {N ps : List Str} {k : Nat} {ts : DTS} (Fn : FunD K x qual params body scope dvs kws f fd) (S : FnScope N ps scope)
    (hb : ∀ (cdv : Value) (A : Around) (outer : List Env) (s : Shared) (H : Hp) (σ0 : L2.St) (E : XK), Room k (A.deeper (envOfC qual scope s.heap.objs.size f cdv)) → Takes (FX P w K mg base N qual scope f cdv A outer s H E) (WF E) → PassesOwn (model P w) (A.deeper (envOfC qual scope s.heap.objs.size f cdv)) (FX P w K mg base N qual scope f cdv A outer s H E).env (FX P w K mg base N qual scope f cdv A outer s H E).xe →
      DSs (FX P w K mg base N qual scope f cdv A outer s H E) σ0 (WF E) body ts) :
    FnOk P w K mg base (L2.CX P w) (k + 1) f fd ps (spD K ps.length (runF N.length ts)) := by
  refine Fn.ok S (fun vs H Q E h => ?_) (fun cdv A outer s H vs Q E hr h => ?_)
  · obtain ⟨F, B, args, ha, e, _⟩ := h
    have := e.len
    rw [List.length_map] at this
    omega
  · obtain ⟨F, B, args, ha, e, q⟩ := h
    have hl : vs.length = args.length := by have := e.len; rw [List.length_map] at this; exact this
    have hN : vs.length ≤ N.length := by
      have := congrArg List.length S.pre
      rw [List.length_take] at this
      omega
    obtain ⟨t, pt, ht⟩ := (hb cdv A outer s H (L2.start N vs) E hr (takes_of rfl rfl rfl rfl) (passes_of (X := FX P w K mg base N qual scope f cdv A outer s H E) rfl)).pf
    refine ⟨t, pt, ht _ F B H _ _ (body_in e hN) ?_⟩
    unfold runF at q
    show SOk K (L2.start N vs) (WF E) F B _ _
    cases hs : ts (args.map enter ++ List.replicate (N.length - args.length) .no) with
    | ok fl ρ =>
      rw [hs] at q
      cases fl with
      | nx =>
        unfold fin at q
        cases ho : outs args ρ with
        | none => simp only [ho] at q; exact False.elim q
        | some os =>
          simp only [ho] at q
          intro σ' F' B' H' g E'
          obtain ⟨a, b⟩ := body_out hl ho E'
          exact q .non F' B' H' g a .non
      | ret sl =>
        unfold fin at q
        cases ho : outs args ρ with
        | none => simp only [ho] at q; exact False.elim q
        | some os =>
          simp only [ho] at q
          intro v σ' F' B' H' g E' r
          obtain ⟨a, b⟩ := body_out hl ho E'
          exact q v F' B' H' g a (b v sl r)
      | brk => exact False.elim q
      | ct => exact False.elim q
    | exc x ρ =>
      rw [hs] at q
      unfold fin at q
      cases ho : outs args ρ with
      | none => simp only [ho] at q; exact False.elim q
      | some os =>
        simp only [ho] at q
        intro cls d σ' F' B' H' g E' r
        obtain ⟨a, b⟩ := body_out hl ho E'
        exact q cls d F' B' H' g a r
    | bad => rw [hs] at q; exact False.elim q
/-- what a def does, said otherwise -/
theorem fn_as {k : Nat} {f : Addr} {fd : FuncData} {ps : List Str} {n : Nat} {g g' : List Slot → Out} (G : FnOk P w K mg base (L2.CX P w) k f fd ps (spD K n g)) (h : ∀ args, args.length = n → g' args = .bad ∨ g args = g' args) : FnOk P w K mg base (L2.CX P w) k f fd ps (spD K n g') :=
  G.imp fun vs H Q E q => by
    obtain ⟨F, B, args, ha, e, q⟩ := q
    refine ⟨F, B, args, ha, e, ?_⟩
    rcases h args ha with z | z
    · rw [z] at q; exact False.elim q
    · rw [z]; exact q
end
end DL

set_option Elab.async false
set_option linter.all false
set_option maxRecDepth 100000
set_option maxHeartbeats 2000017
namespace DL
open L2 PyProof.Rows PySem PySem.Spec

/-! ### list comprehensions -/
abbrev W0 : WX := fun _ _ _ _ => False
/-- the slots of a block's own names forgotten -/
def wipeR (ρ : En) : List Nat → En
  | [] => ρ
  | v :: vs => (wipeR ρ vs).set v .no
/-- .. and given back -/
def giveR (ρ0 ρ : En) : List Nat → En
  | [] => ρ
  | v :: vs => match ρ0[v]? with
    | some s => (giveR ρ0 ρ vs).set v s
    | none => giveR ρ0 ρ vs
/-- none of the slots owns anything -/
def noOwn (ρ : En) : List Nat → Bool
  | [] => true
  | v :: vs => (match ρ[v]? with
    | some (.own _ _) => false
    | _ => true) && noOwn ρ vs
def DTest := En → Oc Bool
def lcomp (vs : List Nat) (g : DTG) (tt : DTT) (te : DTV) : List D → List D → En → Oc (List D)
  | [], acc, ρ => .ok acc ρ
  | d :: r, acc, ρ => match g d ρ with
    | none => .bad
    | some ρ1 => match tt ρ1 with
      | .ok true ρ2 => (match te ρ2 with
        | .ok y ρ3 => if acc.length < sizeLine then lcomp vs g tt te r (acc ++ [y]) (wipeR ρ3 vs) else .bad
        | _ => .bad)
      | .ok false ρ2 => lcomp vs g tt te r acc (wipeR ρ2 vs)
      | _ => .bad
def eComp (vs : List Nat) (ti : DTI) (g : DTG) (tt : DTT) (te : DTV) : DTE := fun ρ => (ti ρ).bind fun ds ρ1 => if noOwn ρ1 vs = true then (lcomp vs g tt te ds [] (wipeR ρ1 vs)).bind fun ys ρ2 => .ok (.own false (.lst ys)) (giveR ρ1 ρ2 vs) else .bad
section
variable {K : Fg} {σ0 : L2.St} {F B F' B' H H' : Hp} {σ σ' : L2.St} {ρ ρ' : En}
theorem wipeR_len : ∀ (vs : List Nat), (wipeR ρ vs).length = ρ.length
  | [] => rfl
  | v :: vs => by unfold wipeR; rw [List.length_set, wipeR_len vs]
theorem giveR_len : ∀ (vs : List Nat), (giveR ρ ρ' vs).length = ρ'.length
  | [] => rfl
  | v :: vs => by
    unfold giveR
    split
    · rw [List.length_set, giveR_len vs]
    · exact giveR_len vs
theorem wipeR_get {i : Nat} {s : Slot} (hs : s ≠ .no) : ∀ {vs : List Nat}, (wipeR ρ vs)[i]? = some s → ρ[i]? = some s ∧ i ∉ vs
  | [], h => ⟨h, by simp⟩
  | v :: vs, h => by
    unfold wipeR at h
    rcases get_set h with ⟨rfl, y⟩ | ⟨n, y⟩
    · exact absurd y hs
    · obtain ⟨a, b⟩ := wipeR_get hs y
      exact ⟨a, by simp only [List.mem_cons, not_or]; exact ⟨n, b⟩⟩
theorem wipe_keep {i : Nat} : ∀ {vs : List Nat}, i ∉ vs → (L2.wipe σ vs)[i]? = σ[i]?
  | [], _ => rfl
  | v :: vs, h => by
    simp only [List.mem_cons, not_or] at h
    unfold L2.wipe
    rw [List.getElem?_set_ne (Ne.symm h.1), wipe_keep h.2]
theorem noOwn_at {v : Nat} : ∀ {vs : List Nat}, noOwn ρ vs = true → v ∈ vs → ∀ t d, ρ[v]? ≠ some (.own t d)
  | [], _, h => by cases h
  | u :: vs, e, h => fun t d q => by
    unfold noOwn at e
    rw [Bool.and_eq_true] at e
    rcases List.mem_cons.mp h with rfl | h
    · rw [q] at e
      cases e.1
    · exact noOwn_at e.2 h t d q
theorem giveR_get {i : Nat} {s : Slot} : ∀ {vs : List Nat}, ρ.length = ρ'.length → (giveR ρ ρ' vs)[i]? = some s → (i ∈ vs ∧ ρ[i]? = some s) ∨ (i ∉ vs ∧ ρ'[i]? = some s)
  | [], _, h => .inr ⟨by simp, h⟩
  | v :: vs, hl, h => by
    unfold giveR at h
    split at h
    · rename_i s' hs'
      rcases get_set h with ⟨rfl, y⟩ | ⟨n, y⟩
      · rw [y]
        exact .inl ⟨List.mem_cons_self, hs'⟩
      · rcases giveR_get hl y with ⟨a, b⟩ | ⟨a, b⟩
        · exact .inl ⟨List.mem_cons_of_mem _ a, b⟩
        · exact .inr ⟨by simp only [List.mem_cons, not_or]; exact ⟨n, a⟩, b⟩
    · rename_i hn
      rcases giveR_get hl h with ⟨a, b⟩ | ⟨a, b⟩
      · exact .inl ⟨List.mem_cons_of_mem _ a, b⟩
      · by_cases e : i = v
        · subst e
          have lt : i < ρ'.length := (List.getElem?_eq_some_iff.mp b).1
          rw [← hl] at lt
          have hn : ρ[i]? = none := hn
          rw [List.getElem?_eq_getElem lt] at hn
          cases hn
        · exact .inr ⟨by simp only [List.mem_cons, not_or]; exact ⟨e, a⟩, b⟩
theorem EnvR.wipe {vs : List Nat} (E : EnvR K σ0 F B H σ ρ) : EnvR K σ0 F B H (L2.wipe σ vs) (wipeR ρ vs) := by
  have key : ∀ {i : Nat} {s : Slot}, (wipeR ρ vs)[i]? = some s → s ≠ .no → ρ[i]? = some s ∧ (L2.wipe σ vs)[i]? = σ[i]? := fun {i s} h hs => by
    obtain ⟨a, b⟩ := wipeR_get hs h
    exact ⟨a, wipe_keep b⟩
  refine ⟨E.hp, by rw [wipe_length, wipeR_len]; exact E.len, fun i d h => ?_, fun i t d h => ?_, fun i j t t' d d' p h h' c c' => ?_⟩
  · obtain ⟨a, b⟩ := key h (by simp)
    obtain ⟨v, e, r⟩ := E.val i d a
    exact ⟨v, by rw [b]; exact e, r⟩
  · obtain ⟨a, b⟩ := key h (by simp)
    obtain ⟨p, e, r⟩ := E.own i t d a
    exact ⟨p, by rw [b]; exact e, r⟩
  · obtain ⟨a, b⟩ := key h (by simp)
    obtain ⟨a', b'⟩ := key h' (by simp)
    rw [b] at c
    rw [b'] at c'
    exact E.dif i j t t' d d' p a a' c c'
/-- from the block's slots back to the def's -/
theorem EnvR.give {vs : List Nat} {ρ1 : En} (E : EnvR K σ0 F B H σ ρ) (ho : noOwn ρ vs = true) (g : Gr F B F' B') (E' : EnvR K σ0 F' B' H' (L2.wipe σ vs) ρ1) : EnvR K σ0 F' B' H' σ (giveR ρ ρ1 vs) := by
  have hl : ρ.length = ρ1.length := by
    have a := E.len
    have b := E'.len
    rw [wipe_length] at b
    omega
  have ow : ∀ {i : Nat} {t : Bool} {d : D}, (giveR ρ ρ1 vs)[i]? = some (.own t d) → ρ1[i]? = some (.own t d) ∧ (L2.wipe σ vs)[i]? = σ[i]? := fun {i t d} h => by
    rcases giveR_get hl h with ⟨a, b⟩ | ⟨a, b⟩
    · exact absurd b (noOwn_at ho a t d)
    · exact ⟨b, wipe_keep a⟩
  refine ⟨E'.hp, by rw [giveR_len, ← hl]; exact E.len, fun i d h => ?_, fun i t d h => ?_, fun i j t t' d d' p h h' c c' => ?_⟩
  · rcases giveR_get hl h with ⟨a, b⟩ | ⟨a, b⟩
    · obtain ⟨v, e, r⟩ := E.val i d b
      exact ⟨v, e, r.mono g.f⟩
    · obtain ⟨v, e, r⟩ := E'.val i d b
      exact ⟨v, by rw [wipe_keep a] at e; exact e, r⟩
  · obtain ⟨a, b⟩ := ow h
    obtain ⟨p, e, r⟩ := E'.own i t d a
    exact ⟨p, by rw [← b]; exact e, r⟩
  · obtain ⟨a, b⟩ := ow h
    obtain ⟨a', b'⟩ := ow h'
    exact E'.dif i j t t' d d' p a a' (by rw [b]; exact c) (by rw [b']; exact c')
end
section
variable {X : Cx} {σ0 : L2.St} {W : WX}
/-- the block's context -/
abbrev Blk (X : Cx) (scope : Scope) (s : Shared) (H : Hp) (C : Addr) (cl : List (Str × Addr)) (fp : List Addr) : Cx := X.blk s H scope (compEnvC scope cl C X.env) fp
structure DTs (X : Cx) (σ0 : L2.St) (W : WX) (ifs : List Expr) (tt : DTT) : Prop where
  pf : ∃ t : TT, PTs X ifs t ∧ ∀ σ F B H ρ Q, EnvR X.K σ0 F B H σ ρ → TOk X.K σ0 W F B σ Q (tt ρ) → t σ H Q
def tYes : DTT := fun ρ => .ok true ρ
theorem dts_nil : DTs X σ0 W [] tYes := ⟨⟨_, pts_nil, fun σ F B H ρ Q E q => q F B H (Gr.refl F B) E⟩⟩
theorem dts_one {c : Expr} {t : DTT} (h : DT X σ0 W c t) : DTs X σ0 W [c] t := by
  obtain ⟨u, pu, hu⟩ := h.pf
  exact ⟨⟨u, pts_one pu, hu⟩⟩
/-! the canonical readings, the same in every context -/
def cV (K : Fg) (σ0 : L2.St) (W : WX) (te : DTV) : TE := fun σ H Q => ∃ F B ρ, EnvR K σ0 F B H σ ρ ∧ VOk K σ0 W F B σ Q (te ρ)
def cT (K : Fg) (σ0 : L2.St) (W : WX) (tt : DTT) : TT := fun σ H Q => ∃ F B ρ, EnvR K σ0 F B H σ ρ ∧ TOk K σ0 W F B σ Q (tt ρ)
def cG (K : Fg) (σ0 : L2.St) (is : List Nat) (g : DTG) : TG := fun v σ H Q => ∃ F B ρ d, EnvR K σ0 F B H σ ρ ∧ Rep K F v d ∧ GOk K σ0 F B σ is Q (g d ρ)
theorem DV.can {e : Expr} {te : DTV} (h : DV X σ0 W e te) : PE X e (cV X.K σ0 W te) := by
  obtain ⟨t, pt, ht⟩ := h.pf
  exact ⟨fun pins s σ H Q I ⟨F, B, ρ, E, q⟩ => pt.run pins s σ H Q I (ht σ F B H ρ Q E q)⟩
theorem DTs.can {e : List Expr} {te : DTT} (h : DTs X σ0 W e te) : PTs X e (cT X.K σ0 W te) := by
  obtain ⟨t, pt, ht⟩ := h.pf
  exact ⟨fun pins s σ H Q I ⟨F, B, ρ, E, q⟩ => pt.run pins s σ H Q I (ht σ F B H ρ Q E q)⟩
theorem DG.can {e : Expr} {is : List Nat} {g : DTG} (h : DG X σ0 e is g) : PG X e (cG X.K σ0 is g) := by
  obtain ⟨t, pt, ht⟩ := h.pf
  exact ⟨fun pins s σ H v u Q I r ⟨F, B, ρ, d, E, rr, q⟩ => pt.run pins s σ H v u Q I r (ht σ F B H ρ v d Q E rr q)⟩
/-- the comprehension's reading, from its data -/
theorem wipe_only {is vs : List Nat} {σ σ2 : L2.St} (o : Only is (L2.wipe σ vs) σ2) (hs : ∀ i ∈ is, i ∈ vs) : L2.wipe σ2 vs = L2.wipe σ vs := by
  have gone : ∀ {τ : L2.St} {us : List Nat} {j : Nat}, j ∈ us → j < τ.length → (L2.wipe τ us)[j]? = some none := fun {τ us j} => by
    induction us with
    | nil => intro h; cases h
    | cons u us ih =>
      intro h hl
      unfold L2.wipe
      by_cases e : u = j
      · subst e
        rw [List.getElem?_set_self (by rw [wipe_length]; exact hl)]
      · rw [List.getElem?_set_ne e]
        rcases List.mem_cons.mp h with z | z
        · exact absurd z.symm e
        · exact ih z hl
  have len : σ2.length = σ.length := by rw [o.1, wipe_length]
  apply List.ext_getElem?
  intro j
  by_cases hj : j ∈ vs
  · by_cases hl : j < σ.length
    · rw [gone hj (by rw [len]; exact hl), gone hj hl]
    · rw [List.getElem?_eq_none (by rw [wipe_length]; omega), List.getElem?_eq_none (by rw [wipe_length]; omega)]
  · rw [wipe_keep hj, o.2 j fun z => hj (hs j z)]
theorem comp_ok {is vs : List Nat} (his : ∀ i ∈ is, i ∈ vs) {ti : DTI} {g : DTG} {tt : DTT} {te : DTV} {wi : TI} {F B H : Hp} {σ : L2.St} {ρ : En} {Q : VK}
    (hw : ∀ σ F B H ρ R, EnvR X.K σ0 F B H σ ρ → OOk X.K σ0 W F B σ (PIt X.K σ0 F B σ R) (ti ρ) → wi σ H R) (E : EnvR X.K σ0 F B H σ ρ) (q : EOk X.K σ0 W F B σ Q (eComp vs ti g tt te ρ)) :
    tLc wi (cG X.K σ0 is g) (cT X.K σ0 W0 tt) (cV X.K σ0 W0 te) vs σ H Q := by
  refine hw σ F B H ρ _ E (q.bind.imp fun ds ρ1 q1 J F1 B1 H1 g1 E1 jk => ?_)
  by_cases hno : noOwn ρ1 vs = true
  case neg => rw [if_neg hno] at q1; exact False.elim q1
  rw [if_pos hno] at q1
  have q1 := EOk.gr g1 q1
  intro Dl hD
  obtain ⟨hDb, hDf⟩ := E1.hp.none hD
  -- the state at a turn
  refine ⟨fun i m H2 => m = ds.length - i ∧ i ≤ ds.length ∧ ∃ F2 B2 ρ2 acc ds', Gr F1 B1 F2 B2 ∧ EnvR X.K σ0 F2 B2 H2 (L2.wipe σ vs) ρ2 ∧ B2 Dl = none ∧ H2 Dl = some (.lst acc) ∧ RepL X.K F2 acc ds' ∧ (∀ (i : Nat) (t : Bool) (d' : D), ρ2[i]? = some (.own t d') → (L2.wipe σ vs)[i]? ≠ some (some (.ref Dl))) ∧
      EOk X.K σ0 W F1 B1 σ Q ((lcomp vs g tt te (ds.drop i) ds' ρ2).bind fun ys ρ3 => .ok (.own false (.lst ys)) (giveR ρ1 ρ3 vs)), ?_, ?_⟩
  · refine ⟨ds.length, rfl, Nat.zero_le _, F1, B1, wipeR ρ1 vs, [], [], Gr.refl F1 B1, (E1.newOwn hD).wipe, hDb, upd_same, .nil, ?_, q1⟩
    exact fun i t d' h => by
      obtain ⟨a, b⟩ := wipeR_get (by simp) h
      rw [wipe_keep b]
      exact E1.res_new hD i t d' a
  · rintro i m H2 ⟨rfl, hi, F2, B2, ρ2, acc, ds', g2, E2, hb2, hd2, rl, hn2, q2⟩
    by_cases hlt : i < ds.length
    · refine .inr ⟨jk.go i F2 B2 H2 g2 E2.hp hlt, fun H3 => ∃ F3 B3 ρ3 acc ds', Gr F1 B1 F3 B3 ∧ EnvR X.K σ0 F3 B3 H3 (L2.wipe σ vs) ρ3 ∧ B3 Dl = none ∧ H3 Dl = some (.lst acc) ∧ RepL X.K F3 acc ds' ∧ (∀ (i : Nat) (t : Bool) (d' : D), ρ3[i]? = some (.own t d') → (L2.wipe σ vs)[i]? ≠ some (some (.ref Dl))) ∧
        EOk X.K σ0 W F1 B1 σ Q ((lcomp vs g tt te (ds.drop (i + 1)) ds' ρ3).bind fun ys ρ3 => .ok (.own false (.lst ys)) (giveR ρ1 ρ3 vs)), fun H3 n => ⟨ds.length - (i + 1), by omega, rfl, hlt, n⟩, fun x H3 hy => ?_⟩
      rw [List.drop_eq_getElem_cons hlt] at q2
      obtain ⟨F3, B3, g3, keep, rx, kp⟩ := jk.yld i ds[i] F2 B2 H2 x H3 g2 E2.hp (List.getElem?_eq_getElem hlt) hy
      have E3 := keep _ _ E2
      obtain ⟨hb3, hd3⟩ := kp Dl _ hb2 hd2
      have hf3 : F3 Dl = none := E3.hp.fnone hb3
      unfold lcomp at q2
      -- the list is held through the turn
      have E3h := E3.hold hb3 hd3 hn2
      refine ⟨F3, upd B3 Dl (.lst acc), ρ2, ds[i], E3h, rx, ?_⟩
      cases hgo : g ds[i] ρ2 with
      | none => rw [hgo] at q2; exact False.elim q2
      | some ρ3 =>
        simp only [hgo] at q2
        intro σ4 F4 B4 H4 g4 E4 oo
        have hw4 := wipe_only oo his
        refine ⟨hw4, F4, B4, ρ3, E4, ?_⟩
        -- the end of a turn: let go of the list
        have fin : ∀ {F5 B5 H5 : Hp} {ρ5 : En}, Gr F3 (upd B3 Dl (.lst acc)) F5 B5 → EnvR X.K σ0 F5 B5 H5 σ4 ρ5 → Gr F1 B1 F5 (dele B5 Dl) ∧ EnvR X.K σ0 F5 (dele B5 Dl) H5 (L2.wipe σ vs) (wipeR ρ5 vs) ∧ H5 Dl = some (.lst acc) ∧ dele B5 Dl Dl = none ∧
            (∀ (i : Nat) (t : Bool) (d' : D), (wipeR ρ5 vs)[i]? = some (.own t d') → (L2.wipe σ vs)[i]? ≠ some (some (.ref Dl))) := fun {F5 B5 H5 ρ5} g5 E5 => by
          obtain ⟨a1, a2, a3, a4, a5⟩ := EnvR.letgo hb3 hf3 g5 E5
          have E6 := a2.wipe (vs := vs)
          rw [hw4] at E6
          refine ⟨g2.trans (g3.trans a1), E6, a3, a4, fun i t d' h => ?_⟩
          obtain ⟨z1, z2⟩ := wipeR_get (by simp) h
          rw [← hw4, wipe_keep z2]
          exact a5 i t d' z1
        cases htt : tt ρ3 with
        | ok b ρ4 =>
          intro F5 B5 H5 g5 E5
          cases b with
          | false =>
            simp only [htt] at q2
            refine iteF ?_
            obtain ⟨a1, a2, a3, a4, a5⟩ := fin (g4.trans g5) E5
            exact ⟨F5, _, _, acc, ds', a1, a2, a4, a3, rl.mono (g3.f.trans (g4.f.trans g5.f)), a5, q2⟩
          | true =>
            simp only [htt] at q2
            refine iteT ⟨F5, B5, ρ4, E5, ?_⟩
            cases hte : te ρ4 with
            | ok y ρ5 =>
              simp only [hte] at q2
              intro v F6 B6 H6 g6 E6 r6
              obtain ⟨a1, a2, a3, a4, a5⟩ := fin (g4.trans (g5.trans g6)) E6
              by_cases hz : ds'.length < sizeLine
              · rw [if_pos hz] at q2
                refine ⟨acc, a3, by rw [rl.length]; exact hz, ?_⟩
                have xf : Ex F2 F6 := g3.f.trans (g4.f.trans (g5.f.trans g6.f))
                refine ⟨F6, _, _, acc ++ [v], ds' ++ [y], a1, ?_, a4, upd_same, (rl.mono xf).append (.cons r6 .nil), a5, q2⟩
                refine ⟨⟨a2.hp.fb, fun a u hu => ?_⟩, a2.len, a2.val, fun j t d' hj => ?_, a2.dif⟩
                · have ne : a ≠ Dl := fun z => by rw [z, a4] at hu; cases hu
                  rw [upd_ne ne]
                  exact a2.hp.bh a u hu
                · obtain ⟨p, p1, p2, p3, p4⟩ := a2.own j t d' hj
                  have ne : p ≠ Dl := fun z => a5 j t d' hj (by rw [p1, z])
                  exact ⟨p, p1, p2, p3.mono (Evl.Ex.refl F6) fun u hu => by rw [upd_ne ne]; exact hu, p4⟩
              · rw [if_neg hz] at q2; exact False.elim q2
            | exc x ρ5 => simp only [hte] at q2; exact False.elim q2
            | bad => simp only [hte] at q2; exact False.elim q2
        | exc x ρ4 => simp only [htt] at q2; exact False.elim q2
        | bad => simp only [htt] at q2; exact False.elim q2
    · have e : i = ds.length := by omega
      subst e
      rw [List.drop_length] at q2
      refine .inl ⟨jk.stop F2 B2 H2 g2 E2.hp, ?_⟩
      have q2 : PEnd X.K σ0 F1 B1 σ Q (.own false (.lst ds')) (giveR ρ1 ρ2 vs) := q2
      have E5 := E1.give hno g2 E2
      refine q2 (.ref Dl) F2 B2 H2 g2 E5 ⟨Dl, rfl, hb2, ⟨acc, hd2, rl⟩, fun j t d' hj hz => ?_⟩
      have hl : ρ1.length = ρ2.length := by
        have a := E1.len
        have b := E2.len
        rw [wipe_length] at b
        omega
      rcases giveR_get hl hj with ⟨a, b⟩ | ⟨a, b⟩
      · exact absurd b (noOwn_at hno a t d')
      · exact hn2 j t d' b (by rw [wipe_keep a]; exact hz)
/-- [elt for target in iter if ..] -/
theorem de_comp {is : List Nat} {elt tg iter : Expr} {ifs : List Expr} {scope : Scope} {own : List (Str × Nat)} {pos : Pos} {ti : DTI} {g : DTG} {tt : DTT} {te : DTV} (hc : X.calm = true) (hN : X.N.Nodup) (hi : DI X σ0 W tg iter ti) (ok : BlkOk X.N X.env.scope scope own)
    (hg : ∀ s H C cl fp, DG (Blk X scope s H C cl fp) σ0 tg is g) (ht : ∀ s H C cl fp, DTs (Blk X scope s H C cl fp) σ0 W0 ifs tt) (he : ∀ s H C cl fp, DV (Blk X scope s H C cl fp) σ0 W0 elt te)
    (his : ∀ i ∈ is, i ∈ own.map (·.2) := by decide) (hs : ∀ x, foldedSetIterable iter X.env x = pure x := by intro _; rfl) : DE X σ0 W (.ListComp elt [⟨tg, iter, ifs, 0⟩] scope pos) (eComp (own.map (·.2)) ti g tt te) := by
  obtain ⟨wi, pw, hw⟩ := hi.pf
  exact ⟨⟨_, pe_lc (g := cG X.K σ0 is g) (tt := cT X.K σ0 W0 tt) (te := cV X.K σ0 W0 te) hc hN pw ok (fun s H C cl fp => (hg s H C cl fp).can) (fun s H C cl fp => (ht s H C cl fp).can) (fun s H C cl fp => (he s H C cl fp).can) hs, fun σ F B H ρ Q E q => comp_ok his hw E q⟩⟩
/-- name = [..] on one line -/
theorem ds_setLc (i : Nat) {y : Str} {py : Pos} {is : List Nat} {elt tg iter : Expr} {ifs : List Expr} {scope : Scope} {own : List (Str × Nat)} {pos spos : Pos} {ti : DTI} {g : DTG} {tt : DTT} {te : DTV} (hc : X.calm = true) (hN : X.N.Nodup) (hi : DI X σ0 W tg iter ti) (ok : BlkOk X.N X.env.scope scope own)
    (hg : ∀ s H C cl fp, DG (Blk X scope s H C cl fp) σ0 tg is g) (ht : ∀ s H C cl fp, DTs (Blk X scope s H C cl fp) σ0 W0 ifs tt) (he : ∀ s H C cl fp, DV (Blk X scope s H C cl fp) σ0 W0 elt te)
    (hsw : swapsWith (.ListComp elt [⟨tg, iter, ifs, 0⟩] scope pos) (some (.Name y py)) spos.line X.env = pure true) (hy : X.N[i]? = some y := by rfl) (hyl : X.env.scope.names.lookup y = some .local := by rfl)
    (his : ∀ i ∈ is, i ∈ own.map (·.2) := by decide) (hs : ∀ x, foldedSetIterable iter X.env x = pure x := by intro _; rfl) : DS X σ0 W (.Assign [.Name y py] (.ListComp elt [⟨tg, iter, ifs, 0⟩] scope pos) spos) (sSet i (eComp (own.map (·.2)) ti g tt te)) := by
  obtain ⟨wi, pw, hw⟩ := hi.pf
  refine ⟨⟨_, ps_setLc (g := cG X.K σ0 is g) (tt := cT X.K σ0 W0 tt) (te := cV X.K σ0 W0 te) hc hN hy hyl hsw pw ok (fun s H C cl fp => (hg s H C cl fp).can) (fun s H C cl fp => (ht s H C cl fp).can) (fun s H C cl fp => (he s H C cl fp).can) hs, fun σ F B H ρ D E q => ?_⟩⟩
  refine comp_ok (W := W) his hw E (EOk.stmt q fun s ρ1 v F' B' H' g' E1 r q1 => ?_)
  exact put_ok (SOk.gr g' q1) E1 r
end
end DL

set_option Elab.async false
set_option linter.all false
set_option maxRecDepth 100000
set_option maxHeartbeats 2000017
namespace DL
open L2 PyProof.Rows PySem PySem.Spec

section
variable {X : Cx} {σ0 : L2.St} {W : WX} {F B F' B' H H' : Hp} {σ : L2.St} {ρ : En} {pos : Pos}
/-! ### powers, the sign -/
def powD : D → D → Option Slot
  | .int i, .int j => if 0 ≤ j ∧ j ≤ 1000000 ∧ i.natAbs < 2 ^ 64 then some (.val (.int (i ^ j.toNat))) else none
  | _, _ => none
theorem op_powD : OpD X σ0 (binaryOp .Pow) powD := by
  intro pins s σ F B H ρ x y v u d e sl Q I E rx ry r1 r2 hg q
  unfold powD at hg
  split at hg
  · split at hg
    · rename_i hc
      cases hg
      cases r1
      cases r2
      exact op_pow pins s σ H _ _ v u Q I rx ry ⟨_, _, rfl, rfl, hc, q.val E (.int _)⟩
    · cases hg
  · cases hg

/-! ### x[i] = e, x a name with an owned list -/
def putAt (j : Nat) (k z : D) (ρ : En) : Oc Fl := match ρ[j]? with
  | some (.own t (.lst ds)) => (match k with
    | .int n => (match ixN ds.length n with
      | some m => .ok .nx (ρ.set j (.own t (.lst (ds.set m z))))
      | none => .bad)
    | _ => .bad)
  | _ => .bad
def hasOwn (j : Nat) (ρ : En) : Bool := match ρ[j]? with
  | some (.own _ _) => true
  | _ => false
def sPut (j : Nat) (tb te : DTV) : DTS := fun ρ => (te ρ).bind fun z ρ1 => if hasOwn j ρ1 = true then (tb ρ1).bind fun k ρ2 => putAt j k z ρ2 else .bad
theorem hasOwn_at {j : Nat} (h : hasOwn j ρ = true) : ∃ t d, ρ[j]? = some (.own t d) := by
  unfold hasOwn at h
  split at h
  · exact ⟨_, _, by assumption⟩
  · cases h
theorem ds_put (j : Nat) {x : Str} {px ps : Pos} {ix e : Expr} {tb te : DTV} (he : DV X σ0 W e te) (hb : DV X σ0 W ix tb) (hN : X.N[j]? = some x := by rfl) (hv : Vis X.env.scope x := by first | exact Or.inl rfl | exact Or.inr (Or.inl rfl) | exact Or.inr (Or.inr rfl)) (hd : (x == ("__debug__" : Str)) = false := by decide) (hcd : (x == ("__classdict__" : Str)) = false := by decide)
    (hs : swapsWithSole [.Subscript (.Name x px) ix ps] e pos.line X.env = pure false := by rfl) (hw : swappedStores [.Subscript (.Name x px) ix ps] e X.env = pure none := by rfl)
    (h1 : (assignEach [.Subscript (.Name x px) ix ps] X.env).map (·.2) = [assign (.Subscript (.Name x px) ix ps) X.env] := by rfl)
    (ha : ∀ v, assign (.Subscript (.Name x px) ix ps) X.env v = (do
      let ov ← holding [v] (eval (.Name x px) X.env)
      let iv ← holding [v, ov] (eval ix X.env)
      standAt ps
      holding [v, ov, iv] (setItem ov iv v)
      release [v, ov, iv] []) := by intro _; rfl) :
    DS X σ0 W (.Assign [.Subscript (.Name x px) ix ps] e pos) (sPut j tb te) := by
  obtain ⟨t, pt, ht⟩ := he.pf
  obtain ⟨u, pu, hu⟩ := hb.pf
  refine ⟨⟨_, ps_asg pt (pg_sub (pe_var (i := j) hN hv hd hcd) pu set_list ha) hs hw h1, fun σ F B H ρ D E q => ht σ F B H ρ _ E ((SOk.of q).imp fun z ρ1 q1 v F1 B1 H1 g1 E1 r1 => ?_)⟩⟩
  by_cases ho : hasOwn j ρ1 = true
  · rw [if_pos ho] at q1
    obtain ⟨t1, d1, e1⟩ := hasOwn_at ho
    obtain ⟨p, hp, _⟩ := E1.own j t1 d1 e1
    refine ⟨.ref p, hp, ?_⟩
    refine hu σ F1 B1 H1 ρ1 _ E1 ((SOk.of (SOk.gr g1 q1)).imp fun k ρ2 q2 w F2 B2 H2 g2 E2 r2 => ?_)
    unfold putAt at q2
    cases h2 : ρ2[j]? with
    | none => simp only [h2] at q2; exact False.elim q2
    | some sl =>
      cases sl with
      | no => simp only [h2] at q2; exact False.elim q2
      | val d => simp only [h2] at q2; exact False.elim q2
      | own t2 d2 =>
        cases d2 with
        | lst ds =>
          cases r2 with
          | int n =>
            simp only [h2] at q2
            cases hm : ixN ds.length n with
            | none => simp only [hm] at q2; exact False.elim q2
            | some m =>
              simp only [hm] at q2
              obtain ⟨p', hp', hb', ⟨vs, hvs, rl⟩, _⟩ := E2.own j t2 _ h2
              rw [hp] at hp'
              cases hp'
              refine ⟨p, vs, n, m, rfl, rfl, hvs, by rw [rl.length]; exact hm, ?_⟩
              exact q2 σ F2 B2 _ g2 (E2.write h2 hp ⟨_, upd_same, (rl.set (r1.mono g2.f) m)⟩)
          | _ => simp only [h2] at q2; exact False.elim q2
        | _ => simp only [h2] at q2; exact False.elim q2
  · rw [if_neg ho] at q1
    exact False.elim q1

/-! ### built-in functions and types by data -/
def wCall (X : Cx) (f : Value) : List V → Hp → VK → Prop := fun xs H Q => ∀ pins s σ us, Inv X pins σ H s → Vals xs us → wpAny (Mx X) X.A (call f us) (EP X pins σ Q) X.xe s
theorem wCall_ok {f : Value} : CallR X f (wCall X f) := fun pins s σ H xs us Q I r h => h pins s σ us I r
def eCall (g : List D → Option Slot) (ta : DTA) : DTE := fun ρ => (ta ρ).bind fun as ρ => match datas as with
  | some ds => opt (g ds) ρ
  | none => .bad
theorem cl_args {f : Value} {g : List D → Option Slot} {Q : VK} (hc : ClD X σ0 f g) {as : List AArg} {ρ1 : En} {vs : List V} {F1 B1 H1 : Hp} (g1 : Gr F B F1 B1) (E1 : EnvR X.K σ0 F1 B1 H1 σ ρ1) (r1 : Paired (ArgR X.K σ F1) vs as)
    (q : EOk X.K σ0 W F B σ Q (match datas as with | some ds => opt (g ds) ρ1 | none => .bad)) : ∀ pins s us, Inv X pins σ H1 s → Vals vs us → wpAny (Mx X) X.A (call f us) (EP X pins σ Q) X.xe s := by
  intro pins s us I r
  cases hd : datas as with
  | none => rw [hd] at q; exact False.elim q
  | some ds =>
    simp only [hd] at q
    cases hg : g ds with
    | none => simp only [hg] at q; exact False.elim q
    | some sl =>
      simp only [hg] at q
      exact hc pins s σ F1 B1 H1 ρ1 vs us ds sl Q I E1 r (datas_rep r1 hd) hg (PEnd.gr g1 q)
variable {x : Str} {p : Pos} {e : Expr} {es : List Expr} {ta : DTA} {g : List D → Option Slot} {id T : String}
theorem de_callB (hc : ClD X σ0 (.builtin id) g) (hm : X.mg x = none) (hv : bootBuiltins x = some (.builtin id)) (ha : DA X σ0 W (e :: es) ta) (hg : Gl X x := by rfl) (hn : x ≠ "__name__" := by decide) (hdb : (x == ("__debug__" : Str)) = false := by decide)
    (he : starEach (e :: es) X.env = (false, eval e X.env) :: starEach es X.env := by rfl) (hpl : (backTo pos (starEach es X.env)).any (·.1) = false := by rfl) : DE X σ0 W (.Call (.Name x p) (e :: es) [] pos) (eCall g ta) := by
  obtain ⟨t, pt, ht⟩ := ha.pf
  refine DE.of_run fun pins s σ F B H ρ Q I E q => ?_
  refine wpAny_Call_Name_kw (ld_blt I hg hm hv ?_ hn hdb)
  refine PyProof.Rows.callWith_builtin1 (thn (pt.run pos pins s σ H (fun vs H1 => ∀ pins s us, Inv X pins σ H1 s → Vals vs us → wpAny (Mx X) X.A (call (.builtin id) us) (EP X pins σ Q) X.xe s) I ?_) fun us s1 ⟨vs, H1, I1, r1, q1⟩ => q1 pins s1 us I1 r1) he hpl
  exact ht σ F B H ρ _ E (AOk.step q fun as ρ1 vs F1 B1 H1 g1 E1 r1 q1 => cl_args hc g1 E1 r1 q1)
theorem de_callTy (hc : ClD X σ0 (.type T) g) (hm : X.mg x = none) (hv : bootBuiltins x = some (.type T)) (ha : DA X σ0 W (e :: es) ta) (hg : Gl X x := by rfl) (hn : x ≠ "__name__" := by decide) (hdb : (x == ("__debug__" : Str)) = false := by decide)
    (he : starEach (e :: es) X.env = (false, eval e X.env) :: starEach es X.env := by rfl) (hpl : (backTo pos (starEach es X.env)).any (·.1) = false := by rfl) : DE X σ0 W (.Call (.Name x p) (e :: es) [] pos) (eCall g ta) := by
  obtain ⟨t, pt, ht⟩ := ha.pf
  refine DE.of_run fun pins s σ F B H ρ Q I E q => ?_
  refine wpAny_Call_Name_kw (ld_blt I hg hm hv ?_ hn hdb)
  refine PyProof.Rows.callWith_type1 (thn (pt.run pos pins s σ H (fun vs H1 => ∀ pins s us, Inv X pins σ H1 s → Vals vs us → wpAny (Mx X) X.A (call (.type T) us) (EP X pins σ Q) X.xe s) I ?_) fun us s1 ⟨vs, H1, I1, r1, q1⟩ => q1 pins s1 us I1 r1) he hpl
  exact ht σ F B H ρ _ E (AOk.step q fun as ρ1 vs F1 B1 H1 g1 E1 r1 q1 => cl_args hc g1 E1 r1 q1)
/-- by the library's reading -/
theorem cl_of {f : Value} {r : List V → Hp → VK → Prop} (hc : CallR X f r) (h : ∀ F B H σ ρ xs ds sl Q, EnvR X.K σ0 F B H σ ρ → RepL X.K F xs ds → g ds = some sl → PEnd X.K σ0 F B σ Q sl ρ → r xs H Q) : ClD X σ0 f g :=
  fun pins s σ F B H ρ xs us ds sl Q I E rv rl hg q => hc pins s σ H xs us Q I rv (h F B H σ ρ xs ds sl Q E rl hg q)
def maxD : List D → Option Slot
  | [.int i, .int j] => some (.val (.int (if j > i then j else i)))
  | _ => none
def minD : List D → Option Slot
  | [.int i, .int j] => some (.val (.int (if j < i then j else i)))
  | _ => none
def absD : List D → Option Slot
  | [.int i] => some (.val (.int (if i < 0 then -i else i)))
  | _ => none
def intD : List D → Option Slot
  | [.int i] => some (.val (.int i))
  | [.bl b] => some (.val (.int (if b then 1 else 0)))
  | _ => none
theorem cl_max (hc : X.calm = true) : ClD X σ0 (.builtin "max") maxD := cl_of (call_max2 hc) fun F B H σ ρ xs ds sl Q E rl hg q => by
  unfold maxD at hg
  split at hg
  · cases hg
    cases rl with | cons a rl => cases rl with | cons b rl => cases rl; cases a; cases b; exact ⟨_, _, rfl, q.val E (.int _)⟩
  · cases hg
theorem cl_min (hc : X.calm = true) : ClD X σ0 (.builtin "min") minD := cl_of (call_min2 hc) fun F B H σ ρ xs ds sl Q E rl hg q => by
  unfold minD at hg
  split at hg
  · cases hg
    cases rl with | cons a rl => cases rl with | cons b rl => cases rl; cases a; cases b; exact ⟨_, _, rfl, q.val E (.int _)⟩
  · cases hg
theorem cl_abs : ClD X σ0 (.builtin "abs") absD := cl_of call_abs fun F B H σ ρ xs ds sl Q E rl hg q => by
  unfold absD at hg
  split at hg
  · cases hg
    cases rl with | cons a rl => cases rl; cases a; exact ⟨_, rfl, q.val E (.int _)⟩
  · cases hg
theorem cl_int : ClD X σ0 (.type "int") intD := cl_of call_int1 fun F B H σ ρ xs ds sl Q E rl hg q => by
  unfold intD at hg
  split at hg
  · cases hg
    cases rl with | cons a rl => cases rl; cases a; exact .inl ⟨_, rfl, q.val E (.int _)⟩
  · cases hg
    cases rl with | cons a rl => cases rl; cases a; exact .inr ⟨_, rfl, q.val E (.int _)⟩
  · cases hg
/-! ### len -/
def lenD : D → Option Int
  | .lst ds => some (ds.length : Nat)
  | .tup ds => some (ds.length : Nat)
  | .scr ns => some (ns.length : Nat)
  | .dct ks => some (ks.length : Nat)
  | .str x => if x.length ≤ sizeLine then some (x.length : Nat) else none
  | _ => none
end
end DL

set_option Elab.async false
set_option linter.all false
set_option maxRecDepth 100000
set_option maxHeartbeats 2000017
namespace DL
open L2 PyProof.Rows PySem PySem.Spec

/-! ### classes of values -/
inductive Kd where
  | ty (n : String) | ins (C : Str) | exc (C : Str)
  deriving DecidableEq
def Kd.v (K : Fg) : Kd → Value
  | .ty n => .type n
  | .ins C => .ref (He.ga K C)
  | .exc C => .ref (He.ga K C)
def D.kd : D → Option Kd
  | .non => some (.ty "NoneType")
  | .bl _ => some (.ty "bool")
  | .int _ => some (.ty "int")
  | .str _ => some (.ty "str")
  | .tup _ => some (.ty "tuple")
  | .lst _ => some (.ty "list")
  | .scr _ => some (.ty "list")
  | .dct _ => some (.ty "dict")
  | .ins C _ => some (.ins C)
  | .exc C _ => some (.exc C)
  | _ => none
def D.ck : D → Option Kd
  | .ty n => some (.ty n)
  | .cls C => some (.ins C)
  | _ => none
/-- answers of isinstance, by the value's class -/
abbrev KT := List (Kd × List (Kd × Bool))
def excB (K : Fg) (C : Addr) : Bool := (PySem.W.clsIn K C).isSome && (He.eqO (PySem.W.findIn K (.ref C) "__getattribute__") (some (some (.builtin "BaseException.__getattribute__"))) && (He.eqO (PySem.W.findIn K (.ref C) "__getattr__") (some none) &&
  (decide (PySem.W.subIn K (.ref C) (.type "BaseException") = some true) && (He.eqO (PySem.W.findIn K (.ref C) "__class__") (some (some (.builtin "object.__class__"))) && (He.eqO (PySem.W.specialIn K (.builtin "object.__class__") "__get__") (some (some (.builtin "getset_descriptor.__get__"))) &&
  (decide (PySem.W.takesIn K (.builtin "object.__class__") = some true) && decide (PySem.W.mroIn K C (.type "object") = some true)))))))
def insB (K : Fg) (C : Addr) : Bool := PySem.W.plainGet K C "__class__" && (PySem.W.hasDictIn K C && (He.eqO (PySem.W.findIn K (.ref C) "__class__") (some (some (.builtin "object.__class__"))) && (He.eqO (PySem.W.specialIn K (.builtin "object.__class__") "__get__") (some (some (.builtin "getset_descriptor.__get__"))) &&
  (decide (PySem.W.takesIn K (.builtin "object.__class__") = some true) && decide (PySem.W.mroIn K C (.type "object") = some true)))))
def kdB (K : Fg) : Kd → Bool
  | .exc C => excB K (He.ga K C)
  | .ins C => insB K (He.ga K C)
  | .ty _ => true
def isB (K : Fg) (k : Kd) (r : Kd × Bool) : Bool := decide (PySem.W.kitOne K (k.v K) (r.1.v K) = some r.2)
def ktB (K : Fg) (T : KT) : Bool := T.all fun p => kdB K p.1 && p.2.all (isB K p.1)
def IsF (K : Fg) (T : KT) : Prop := ktB K T = true
theorem lookup_in {α β : Type} [BEq α] [LawfulBEq α] {a : α} {b : β} : ∀ {l : List (α × β)}, l.lookup a = some b → (a, b) ∈ l
  | [], h => by cases h
  | (c, u) :: r, h => by
    rw [List.lookup_cons] at h
    cases q : (a == c) with
    | true =>
      rw [q] at h
      cases h
      rw [eq_of_beq q]
      exact List.mem_cons_self
    | false =>
      rw [q] at h
      exact List.mem_cons_of_mem _ (lookup_in h)
def lookT (T : KT) (k c : Kd) : Option Bool := (T.lookup k).bind fun r => r.lookup c
theorem IsF.at {K : Fg} {T : KT} (h : IsF K T) {k c : Kd} {b : Bool} (e : lookT T k c = some b) : kdB K k = true ∧ PySem.W.kitOne K (k.v K) (c.v K) = some b := by
  unfold lookT at e
  cases q : T.lookup k with
  | none => rw [q] at e; cases e
  | some r =>
    rw [q, Option.bind_some] at e
    obtain ⟨h1, h2⟩ := He.ba (List.all_eq_true.mp h _ (lookup_in q))
    exact ⟨h1, of_decide_eq_true (List.all_eq_true.mp h2 _ (lookup_in e))⟩
def anyT (T : KT) (k : Kd) : List D → Option Bool
  | [] => some false
  | c :: r => c.ck.bind fun q => (lookT T k q).bind fun b => if b = true then some true else anyT T k r
theorem exc0_at {P : Program} {w : World} {H : Hp} {h : Heap} {a : Addr} {cls : Value} (hok : HOk P w H h) (he : H a = some (ExO cls a)) : ∃ (oe : Obj) (vs : Array Value), h.get? a = some oe ∧ Zc cls none oe ∧ oe.data = .fields vs := by
  have x : ObjOk P w H h a (.ext fun h => ∃ (oe : Obj) (vs : Array Value), h.get? a = some oe ∧ Zc cls none oe ∧ oe.data = .fields vs ∧ vs[1]? = some .none ∧ vs[2]? = some .none ∧ 4 < vs.size) := hok a _ he
  obtain ⟨oe, vs, h1, h2, h3, _⟩ := x.1
  exact ⟨oe, vs, h1, h2, h3⟩
section
variable {X : Cx} {σ0 : L2.St} {W : WX} {F B F' B' H H' : Hp} {σ : L2.St} {ρ : En} {pos : Pos}
theorem exc_inst {pins : List (Addr × Obj)} {s : Shared} {v : V} {C : Str} {fs : List (Str × D)} (I : Inv X pins σ H s) (E : EnvR X.K σ0 F B H σ ρ) (r : Rep X.K F v (.exc C fs)) :
    ∃ (a : Addr) (oe : Obj) (od : Option Obj), v = .ref a ∧ PySem.W.InstAt s.heap a oe (He.ga X.K C) od := by
  cases r with
  | @exc0 a C h =>
    obtain ⟨oe, vs, h1, h2, h3⟩ := exc0_at I.hok (E.up h)
    refine ⟨a, oe, none, rfl, h1, h2.1, by unfold PySem.W.notCls; rw [h3], ?_⟩
    rw [h2.2]
    trivial
  | @exc a dx C vs fds h h2 rr =>
    obtain ⟨t1, q⟩ := exo_at I.hok (E.up h)
    obtain ⟨mA, hns, _⟩ := exd_at I.hok (E.up h2)
    obtain ⟨od, ho, _⟩ := lookIn_ns hns
    exact ⟨a, _, some od, rfl, q, rfl, rfl, ho⟩
theorem kit_rep {pins : List (Addr × Obj)} {s : Shared} {x : V} {u : Value} {d : D} {k : Kd} (I : Inv X pins σ H s) (E : EnvR X.K σ0 F B H σ ρ) (rx : RelV x u) (r : Rep X.K F x d) (hk : d.kd = some k) (hb : kdB X.K k = true) :
    ∃ P : Heap → Prop, PySem.W.KitX X.K u (k.v X.K) P ∧ P s.heap ∧ u ≠ .builtin "__main__.__loader__#opaque" := by
  have base : ∀ {t : Value}, TyX X.K H x t → k.v X.K = t → ∃ P : Heap → Prop, PySem.W.KitX X.K u (k.v X.K) P ∧ P s.heap ∧ u ≠ .builtin "__main__.__loader__#opaque" := fun ty e => by
    rw [e]
    exact kit_of I rx ty
  cases r with
  | non => cases hk; exact base (.base .non) rfl
  | bl y => cases hk; exact base (.base (.bl y)) rfl
  | int y => cases hk; exact base (.base (.int y)) rfl
  | str y => cases hk; exact base (.base (.str y)) rfl
  | cls C => cases hk
  | ty n => cases hk
  | tup h _ => cases hk; exact base (.base (.tup (E.up h))) rfl
  | lst h _ => cases hk; exact base (.base (.lst (E.up h))) rfl
  | scr h =>
    cases hk
    rcases E.sq h with (h | ⟨o, h⟩) | ⟨o, its, n, h, c, _⟩
    · exact base (.base (.lst h)) rfl
    · exact base (.base (.frz h)) rfl
    · exact base (.kList h c) rfl
  | dct h _ => cases hk; exact base (.base (.dK (E.up h))) rfl
  | @ins a dx C fs fds h rr =>
    cases hk
    cases (show u = Value.ref a from rx)
    obtain ⟨mA, O, _⟩ := ins_get I.hok (E.up h)
    obtain ⟨od, J, _⟩ := O.look
    obtain ⟨b1, hb⟩ := He.ba (show insB X.K (He.ga X.K C) = true from hb)
    obtain ⟨b2, hb⟩ := He.ba hb
    obtain ⟨b3, hb⟩ := He.ba hb
    obtain ⟨b4, hb⟩ := He.ba hb
    obtain ⟨b5, b6⟩ := He.ba hb
    exact ⟨_, PySem.W.kitx_own b1 b2 (He.eqO_ok b3) (He.eqO_ok b4) (of_decide_eq_true b5) (of_decide_eq_true b6), J, fun z => nomatch z⟩
  | @exc0 a C h =>
    cases hk
    obtain ⟨a', oe, od, ea, J⟩ := exc_inst I E (Rep.exc0 (K := X.K) (C := C) h)
    cases ea
    cases (show u = Value.ref a from rx)
    obtain ⟨b1, hb⟩ := He.ba (show excB X.K (He.ga X.K C) = true from hb)
    obtain ⟨b2, hb⟩ := He.ba hb
    obtain ⟨b3, hb⟩ := He.ba hb
    obtain ⟨b4, hb⟩ := He.ba hb
    obtain ⟨b5, hb⟩ := He.ba hb
    obtain ⟨b6, hb⟩ := He.ba hb
    obtain ⟨b7, b8⟩ := He.ba hb
    exact ⟨_, PySem.W.kitx_exc b1 (He.eqO_ok b2) (He.eqO_ok b3) (of_decide_eq_true b4) (He.eqO_ok b5) (He.eqO_ok b6) (of_decide_eq_true b7) (of_decide_eq_true b8), J, fun z => nomatch z⟩
  | @exc a dx C fs fds h h2 rr =>
    cases hk
    obtain ⟨a', oe, od, ea, J⟩ := exc_inst I E (Rep.exc (K := X.K) (C := C) h h2 rr)
    cases ea
    cases (show u = Value.ref a from rx)
    obtain ⟨b1, hb⟩ := He.ba (show excB X.K (He.ga X.K C) = true from hb)
    obtain ⟨b2, hb⟩ := He.ba hb
    obtain ⟨b3, hb⟩ := He.ba hb
    obtain ⟨b4, hb⟩ := He.ba hb
    obtain ⟨b5, hb⟩ := He.ba hb
    obtain ⟨b6, hb⟩ := He.ba hb
    obtain ⟨b7, b8⟩ := He.ba hb
    exact ⟨_, PySem.W.kitx_exc b1 (He.eqO_ok b2) (He.eqO_ok b3) (of_decide_eq_true b4) (He.eqO_ok b5) (He.eqO_ok b6) (of_decide_eq_true b7) (of_decide_eq_true b8), J, fun z => nomatch z⟩
theorem ck_val {v : V} {u : Value} {d : D} {q : Kd} (rx : RelV v u) (r : Rep X.K F v d) (h : d.ck = some q) : u = q.v X.K := by
  cases r <;> cases h
  · exact rx
  · exact rx
theorem any_kit {T : KT} (hT : IsF X.K T) {k : Kd} : ∀ {vs : List V} {us : List Value} {ds : List D} {b : Bool}, Vals vs us → RepL X.K F vs ds → anyT T k ds = some b → PySem.W.kitAny X.K (k.v X.K) us = some b
  | _, _, _, b, .nil, .nil, e => by cases e; rfl
  | _, _, c :: r, b, .cons rv t, .cons rd l, e => by
    unfold anyT at e
    cases hq : c.ck with
    | none => rw [hq] at e; cases e
    | some q =>
      rw [hq, Option.bind_some] at e
      cases hl : lookT T k q with
      | none => rw [hl] at e; cases e
      | some b1 =>
        rw [hl, Option.bind_some] at e
        have h1 := (hT.at hl).2
        have h2 := ck_val rv rd hq
        subst h2
        unfold PySem.W.kitAny
        rw [h1]
        cases b1 with
        | true => rw [if_pos rfl] at e; cases e; rfl
        | false =>
          rw [if_neg Bool.false_ne_true] at e
          exact any_kit hT t l e
/-- the first answer that settles it -/
theorem any_one {T : KT} (hT : IsF X.K T) {k : Kd} {ds : List D} {b : Bool} (e : anyT T k ds = some b) : ds = [] ∨ kdB X.K k = true := by
  cases ds with
  | nil => exact .inl rfl
  | cons c r =>
    unfold anyT at e
    cases hq : c.ck with
    | none => rw [hq] at e; cases e
    | some q =>
      rw [hq, Option.bind_some] at e
      cases hl : lookT T k q with
      | none => rw [hl] at e; cases e
      | some b1 => exact .inr (hT.at hl).1
def isiD1 (T : KT) (k : Kd) (e : D) : Option Bool := match e with
  | .tup [] => none
  | .tup cs => anyT T k cs
  | e => e.ck.bind fun q => lookT T k q
def isiF (T : KT) : List D → Option Slot
  | [d, e] => (d.kd.bind fun k => isiD1 T k e).map fun b => .val (.bl b)
  | _ => none
theorem cl_isi {T : KT} (hT : IsF X.K T) : ClD X σ0 (.builtin "isinstance") (isiF T) := by
  intro pins s σ F B H ρ xs us ds sl Q I E rv rl hg q
  unfold isiF at hg
  split at hg
  · rename_i d e
    cases hk : d.kd with
    | none => rw [hk] at hg; cases hg
    | some k =>
      rw [hk, Option.bind_some] at hg
      cases hb : isiD1 T k e with
      | none => rw [hb] at hg; cases hg
      | some b =>
        rw [hb] at hg
        cases hg
        cases rl with
        | @cons v _ _ _ r1 rl =>
          cases rl with
          | @cons w _ _ _ r2 rl =>
            cases rl
            obtain ⟨u1, u2, rfl, rx, ry⟩ := rv.two
            have fin : ∀ tk, EP X pins σ Q (.bool b) { s with toks := tk } := fun tk => ⟨.bl b, H, I.tok tk, rfl, q.val E (.bl b)⟩
            have one : ∀ q, e.ck = some q → lookT T k q = some b → wpAny (Mx X) X.A (call (.builtin "isinstance") [u1, u2]) (EP X pins σ Q) X.xe s := fun q hq hl => by
              obtain ⟨hi, h1⟩ := hT.at hl
              obtain ⟨P, Z, p, hx⟩ := kit_rep I E rx r1 hk hi
              have h2 := ck_val ry r2 hq
              subst h2
              exact PySem.W.kia_one Z I.kIn p h1 hx fin
            unfold isiD1 at hb
            split at hb
            · cases hb
            · rename_i cs hne
              cases r2 with
              | @tup a vs _ ha l =>
                obtain rfl : u2 = Value.ref a := ry
                rcases any_one hT hb with z | hi
                · exact absurd z (by intro z; subst z; exact hne rfl)
                · obtain ⟨P, Z, p, hx⟩ := kit_rep I E rx r1 hk hi
                  obtain ⟨z1, its, rvs, o, h1, h2, n, h3⟩ := (show ObjOk X.prog X.w H s.heap a (.tup vs) from I.hok a _ (E.up ha))
                  obtain ⟨oc, od, dt, osl⟩ := o
                  dsimp only at h2 h3
                  subst h2 h3
                  exact PySem.W.kia_tup Z I.kIn p h1 (any_kit hT rvs l hb) hx fin
            · cases hq : e.ck with
              | none => rw [hq] at hb; cases hb
              | some q' =>
                rw [hq, Option.bind_some] at hb
                exact one q' hq hb
  · cases hg
/-! ### attributes -/
/-- (is it an exception's class, the class's name, the attribute) -/
abbrev ATb := List (Bool × Str × Str)
def atB (K : Fg) (p : Bool × Str × Str) : Bool := match p.1 with
  | true => xfB K (He.ga K p.2.1) && He.eqO (PySem.W.findIn K (.ref (He.ga K p.2.1)) p.2.2) (some none)
  | false => (He.Fa.cls p.2.1).ok K && He.eqO (PySem.W.findIn K (.ref (He.ga K p.2.1)) p.2.2) (some none)
def AtF (K : Fg) (T : ATb) : Prop := T.all (atB K) = true
def attrD (T : ATb) (f : Str) : D → Option D
  | .exc C fs => if T.contains (true, C, f) = true then fs.lookup f else none
  | .ins C fs => if T.contains (false, C, f) = true then fs.lookup f else none
  | _ => none
theorem attr_ok {T : ATb} (hT : AtF X.K T) {pins : List (Addr × Obj)} {s : Shared} {v : V} {u : Value} {d z : D} {f : Str} {Q : VK} (I : Inv X pins σ H s) (E : EnvR X.K σ0 F B H σ ρ) (rv : RelV v u) (r : BorR X.K F H v d) (hz : attrD T f d = some z)
    (q : ∀ w, Rep X.K F w z → Q w H) : wpAny (Mx X) X.A (getAttr u f true) (EP X pins σ Q) X.xe s := by
  unfold attrD at hz
  split at hz
  · rename_i C fs
    split at hz
    · rename_i hc
      have hb := List.all_eq_true.mp hT _ (List.contains_iff_mem.mp hc)
      obtain ⟨b1, b2⟩ := He.ba (show (xfB X.K (He.ga X.K C) && He.eqO (PySem.W.findIn X.K (.ref (He.ga X.K C)) f) (some none)) = true from hb)
      have T1 := xfB_ok b1
      rcases r with r | ⟨p, _, h⟩
      · cases r with
        | exc0 h => cases hz
        | @exc a dx C vs fds h h2 rr =>
          obtain rfl : u = Value.ref a := rv
          obtain ⟨t1, qa⟩ := exo_at I.hok (E.up h)
          obtain ⟨mA, hns, rel⟩ := exd_at I.hok (E.up h2)
          obtain ⟨od, ho, hl⟩ := lookIn_ns hns
          obtain ⟨w, hw, rw'⟩ := rr.lookup hz
          have rf := rel f
          rw [hw] at rf
          obtain ⟨u, hu, ru⟩ := RelO.some_of rf
          have J : PySem.W.InstAt s.heap a _ (He.ga X.K C) (some od) := ⟨qa, rfl, rfl, ho⟩
          exact HandSPX.exc_get I.kIn J T1.ga T1.gg T1.exC (PySem.W.findObj_own T1.hdC (He.eqO_ok b2) rfl (by rw [hl, hu])) (handed_of ru) ⟨w, H, I.tok _, ru, q w rw'⟩
      · exact h.elim
    · cases hz
  · rename_i C fs
    split at hz
    · rename_i hc
      have hb := List.all_eq_true.mp hT _ (List.contains_iff_mem.mp hc)
      obtain ⟨b1, b2⟩ := He.ba (show ((He.Fa.cls C).ok X.K && He.eqO (PySem.W.findIn X.K (.ref (He.ga X.K C)) f) (some none)) = true from hb)
      obtain ⟨a, dx, vs, rfl, ha, rr⟩ := BorR.ins E r
      obtain rfl : u = Value.ref a := rv
      obtain ⟨w, hw, rw'⟩ := rr.lookup hz
      exact getattr_ok I ha (He.cls_ok b1) (He.eqO_ok b2) hw fun u' s2 I2 ru => ⟨w, H, I2, ru, q w rw'⟩
    · cases hz
  · cases hz
def eAttr (T : ATb) (f : Str) (te : DTV) : DTV := fun ρ => (te ρ).bind fun d ρ => opt (attrD T f d) ρ
theorem dv_attr {T : ATb} (hT : AtF X.K T) {e : Expr} {te : DTV} {f : Str} (he : DV X σ0 W e te) (hb : attributeBase e f X.env (eval e X.env) = eval e X.env := by rfl) : DV X σ0 W (.Attribute e f pos) (eAttr T f te) := by
  obtain ⟨t, pt, ht⟩ := he.pf
  refine DV.of_run fun pins s σ F B H ρ Q I E q => ?_
  refine attr_of hb (thn (pt.run pins s σ H (fun x H2 => ∃ F2 B2 ρ2 d, EnvR X.K σ0 F2 B2 H2 σ ρ2 ∧ Rep X.K F2 x d ∧ VOk X.K σ0 W F2 B2 σ Q (opt (attrD T f d) ρ2)) I ?_) fun u s1 ⟨x, H1, I1, r1, F2, B2, ρ2, d, E2, rr, q2⟩ => ?_)
  · exact ht σ F B H ρ _ E (VOk.step q fun d ρ1 v F1 B1 H1 g1 E1 r1 q1 => ⟨F1, B1, ρ1, d, E1, r1, VOk.gr g1 q1⟩)
  · cases hz : attrD T f d with
    | none => rw [hz] at q2; exact False.elim q2
    | some z =>
      rw [hz] at q2
      exact attr_ok hT I1 E2 r1 (.inl rr) hz fun w rw' => q2 w F2 B2 H1 (Gr.refl F2 B2) E2 rw'
/-- of a name, where it stands -/
def eAttrB (T : ATb) (f : Str) (i : Nat) : DTV := fun ρ => opt ((peek i ρ).bind fun d => attrD T f d) ρ
theorem dv_attrB {T : ATb} (hT : AtF X.K T) (i : Nat) {x f : Str} {px : Pos} (hN : X.N[i]? = some x := by rfl) (hv : Vis X.env.scope x := by first | exact Or.inl rfl | exact Or.inr (Or.inl rfl) | exact Or.inr (Or.inr rfl)) (hd : (x == ("__debug__" : Str)) = false := by decide)
    (hcd : (x == ("__classdict__" : Str)) = false := by decide) (hb : attributeBase (.Name x px) f X.env (eval (.Name x px) X.env) = eval (.Name x px) X.env := by rfl) : DV X σ0 W (.Attribute (.Name x px) f pos) (eAttrB T f i) := by
  refine DV.of_run fun pins s σ F B H ρ Q I E q => ?_
  unfold eAttrB at q
  cases hp : peek i ρ with
  | none => rw [hp] at q; exact False.elim q
  | some d =>
    rw [hp, Option.bind_some] at q
    obtain ⟨v0, hv0, b0⟩ := E.peek hp
    cases hz : attrD T f d with
    | none => rw [hz] at q; exact False.elim q
    | some z =>
      rw [hz] at q
      refine attr_of hb (thn ((pe_var (X := X) (i := i) hN hv hd hcd).run pins s σ H (fun x H2 => x = v0 ∧ H2 = H) I ⟨v0, hv0, rfl, rfl⟩) fun u s1 ⟨x, H1, I1, r1, ex, eh⟩ => ?_)
      subst ex eh
      exact attr_ok hT I1 E r1 b0 hz fun w rw' => q w F B H1 (Gr.refl F B) E rw'
end
end DL

set_option Elab.async false
set_option linter.all false
set_option maxRecDepth 100000
set_option maxHeartbeats 2000017
namespace DL
open L2 PyProof.Rows PySem PySem.Spec

/-! ### own exception classes with an __init__ -/
def oexB (K : Fg) (C : Addr) : Bool := (match K.lookup C with
  | some ⟨.type "type", _, .cls cd, sl⟩ => (match cd.mro, sl.toList with
    | .ref C' :: bm, [_, _, _, _, some (.builtin n), _] => C' == C && (n == "ValueError.__new__" && (!cd.hasDel && (PySem.HandSPX.refsVE bm && cd.hasDict)))
    | _, _ => false)
  | _ => false) && (He.eqO (PySem.W.findIn K (.ref C) "__setattr__") (some (some (.builtin "object.__setattr__"))) && (decide (PySem.W.subIn K (.ref C) (.type "BaseException") = some true) && (decide (PySem.W.typeIn K (.ref C) = some (.type "type")) && PySem.W.keepIn K (.ref C))))
theorem oexB_ok {K : Fg} {C : Addr} (h : oexB K C = true) : OexC K C := by
  obtain ⟨q, h⟩ := He.ba h
  obtain ⟨h1, h⟩ := He.ba h
  obtain ⟨h2, h⟩ := He.ba h
  obtain ⟨h3, h4⟩ := He.ba h
  refine ⟨?_, He.eqO_ok h1, of_decide_eq_true h2, of_decide_eq_true h3, h4⟩
  split at q
  · rename_i dd cd sl ho
    split at q
    · rename_i C' bm k0 k1 k2 k3 n k5 hm hs
      simp only [Bool.and_eq_true, beq_iff_eq, Bool.not_eq_true'] at q
      obtain ⟨rfl, rfl, hdel, hbm, hdc⟩ := q
      obtain ⟨nm, bs, mro, ns, qn, hd, sn, sub, ab, col, del⟩ := cd
      dsimp only at hm hdel hdc
      subst hm hdel hdc
      have hsl : sl = #[k0, k1, k2, k3, some (.builtin "ValueError.__new__"), k5] := by
        obtain ⟨l⟩ := sl
        simp only at hs
        rw [hs]
      subst hsl
      exact ⟨nm, qn, ns, bs, bm, sn, sub, ab, col, dd, k0, k1, k2, k3, k5, ho, hbm⟩
    · cases q
  · cases q
/-- the facts of the class, with its one field -/
def oexFB (K : Fg) (C f : Str) : Bool := oexB K (He.ga K C) && (He.eqO (PySem.W.findIn K (.ref (He.ga K C)) f) (some none) && (He.eqO (PySem.W.findIn K (.ref (He.ga K C)) "__init__") (some (some (.ref (He.ma K (He.ga K C) "__init__")))) && decide (PySem.W.typeIn K (.ref (He.ma K (He.ga K C) "__init__")) = some (.type "function"))))
def spI (C : Addr) (f : Str) : Sp := fun vs H Q E => ∃ a y, vs = [.ref a, y] ∧ H a = some (exo a C none) ∧ ∀ dx, H dx = none → dx ≠ a → Q .non (upd (upd H dx (exd dx [(f, y)])) a (exo a C (some dx)))
section
variable {P : Program} {w : World} {K : Fg} {mg : Str → Option Value} {base : Heap}
theorem exc_init {nm qual self y f C : Str} {params : Arguments} {scope : Scope} {fI : Addr} {fd : FuncData} {k : Nat} {p1 p2 p3 pos : Pos} (Fn : FunD K nm qual params [.Assign [.Attribute (.Name self p1) f p2] (.Name y p3) pos] scope [] [] fI fd) (S : FnScope [self, y] [self, y] scope)
    (T : oexFB K C f = true) (hs : ∀ env : Env, env.scope = scope → swapsWith (.Name y p3) (some (.Attribute (.Name self p1) f p2)) pos.line env = pure false)
    (hv1 : Vis scope self := by first | exact Or.inl rfl | exact Or.inr (Or.inl rfl) | exact Or.inr (Or.inr rfl)) (hv2 : Vis scope y := by first | exact Or.inl rfl | exact Or.inr (Or.inl rfl) | exact Or.inr (Or.inr rfl))
    (hd1 : (self == ("__debug__" : Str)) = false := by decide) (hd2 : (y == ("__debug__" : Str)) = false := by decide) (hc1 : (self == ("__classdict__" : Str)) = false := by decide) (hc2 : (y == ("__classdict__" : Str)) = false := by decide) :
    FnOk P w K mg base (L2.CX P w) (k + 1) fI fd [self, y] (spI (He.ga K C) f) := by
  obtain ⟨t1, t⟩ := He.ba T
  obtain ⟨t2, _⟩ := He.ba t
  refine Fn.ok S (fun vs H Q E h => ?_) (fun cdv A outer s H vs Q E hr h => ?_)
  · obtain ⟨a, y, rfl, _⟩ := h
    rfl
  · obtain ⟨a, z, rfl, ha, q⟩ := h
    refine ⟨_, pss_one (ps_ost (pe_var (i := 0) rfl hv1 hd1 hc1) (pe_var (i := 1) rfl hv2 hd2 hc2) (hs _ rfl)), ?_⟩
    refine ⟨z, rfl, .ref a, rfl, a, He.ga K C, rfl, oexB_ok t1, He.eqO_ok t2, .inl ⟨ha, fun dx hx ne => ?_⟩⟩
    exact q dx hx ne
end
section
variable {X : Cx} {σ0 : L2.St} {W : WX} {F B F' B' H H' : Hp} {σ : L2.St} {ρ : En} {p pos : Pos} {e : Expr}
theorem pe_oex {C f : Str} {k : Nat} {fI : Addr} {fd : FuncData} {ps : List Str} {ta : TA} (T : oexFB X.K C f = true) (hfI : fI = He.ma X.K (He.ga X.K C) "__init__")
    (F1 : FnOk X.prog X.w X.K X.mg X.base (L2.CX X.prog X.w) k fI fd ps (spI (He.ga X.K C) f)) (hr : Room (k + 1) X.A) (hb : Binds X.K fd ps []) (hm : X.mg C = some (.ref (He.ga X.K C))) (ha : PA X [e] ta) (hg : Gl X C := by rfl)
    (hdb : (C == ("__debug__" : Str)) = false := by decide) (he : starEach [e] X.env = (false, eval e X.env) :: starEach [] X.env := by rfl) (hpl : (backTo pos (starEach [] X.env)).any (·.1) = false := by rfl) :
    PE X (.Call (.Name C p) [e] [] pos) (fun σ H Q => ta σ H fun vs H1 => ∃ y, vs = [y] ∧ ∀ a dx, H1 a = none → H1 dx = none → dx ≠ a → Q (.ref a) (upd (upd H1 dx (exd dx [(f, y)])) a (exo a (He.ga X.K C) (some dx)))) := by
  subst hfI
  obtain ⟨t1, t⟩ := He.ba T
  obtain ⟨t2, t⟩ := He.ba t
  obtain ⟨t3, t4⟩ := He.ba t
  have TC := oexB_ok t1
  have iC := He.eqO_ok t3
  have tI := of_decide_eq_true t4
  refine ⟨fun pins s σ H Q I h => ?_⟩
  obtain ⟨nm, q, N, bs, bm, sn, sub, ab, col, dd, k0, k1, k2, k3, k5, hC, hbm⟩ := TC.cls
  refine wpAny_Call_Name_kw (ld_glob I hg hm ?_ hdb)
  refine PySem.W.callWith_K (h₀ := X.base) I.ok.mod.kin TC.kC (thn (ha.run pos pins s σ H _ I h) fun us s1 ⟨vs, H1, I1, r1, y, hvs, q1⟩ => ⟨I1.kIn, ?_⟩) he hpl
  subst hvs
  obtain ⟨u, rfl, ru⟩ := r1.one
  show wpAny _ _ (call (.ref (He.ga X.K C)) [u]) _ _ _
  obtain ⟨hp, g, dr, tk, os⟩ := s1
  have hsz : hp.objs.size ≤ hp.objs.size + 1 := Nat.le_succ _
  have hn : H1 (hp.objs.size + 1) = none := I1.hok.fresh hsz
  have kk : ∀ b o, hp.get? b = some o → ((hp.push (PySem.W.kdv_tup [u])).push (PySem.HandSPX.excO (He.ga X.K C) hp.objs.size)).get? b = some o := fun b o e => Heap.get?_push_of_some _ (Heap.get?_push_of_some _ e)
  have hget : ((hp.push (PySem.W.kdv_tup [u])).push (PySem.HandSPX.excO (He.ga X.K C) hp.objs.size)).get? (hp.objs.size + 1) = some (PySem.HandSPX.excO (He.ga X.K C) hp.objs.size) := by heap_get
  have I2 : Inv X pins σ (upd H1 (hp.objs.size + 1) (exo (hp.objs.size + 1) (He.ga X.K C) none)) ⟨(hp.push (PySem.W.kdv_tup [u])).push (PySem.HandSPX.excO (He.ga X.K C) hp.objs.size), g, dr, tk, os⟩ :=
    I1.laid (t' := tk) (a := hp.objs.size + 1) (o := exo (hp.objs.size + 1) (He.ga X.K C) none) (h' := (hp.push (PySem.W.kdv_tup [u])).push (PySem.HandSPX.excO (He.ga X.K C) hp.objs.size)) kk hsz (exo_ok hget)
  have r2 : Vals [V.ref (hp.objs.size + 1), y] [Value.ref (hp.objs.size + 1), u] := .cons rfl (.cons ru .nil)
  have hq : spI (He.ga X.K C) f [V.ref (hp.objs.size + 1), y] (upd H1 (hp.objs.size + 1) (exo (hp.objs.size + 1) (He.ga X.K C) none)) (fun v H2 => v = .non ∧ Q (.ref (hp.objs.size + 1)) H2) (fun _ _ _ => False) := by
    refine ⟨_, y, rfl, upd_same, fun dx hd ne => ⟨rfl, ?_⟩⟩
    have hd1 : H1 dx = none := by rw [upd_ne ne] at hd; exact hd
    have e1 : upd (upd (upd H1 (hp.objs.size + 1) (exo (hp.objs.size + 1) (He.ga X.K C) none)) dx (exd dx [(f, y)])) (hp.objs.size + 1) (exo (hp.objs.size + 1) (He.ga X.K C) (some dx)) = upd (upd H1 dx (exd dx [(f, y)])) (hp.objs.size + 1) (exo (hp.objs.size + 1) (He.ga X.K C) (some dx)) := by
      funext b
      by_cases h1 : b = hp.objs.size + 1
      · rw [h1, upd_same, upd_same]
      · rw [upd_ne h1, upd_ne h1]
        by_cases h2 : b = dx
        · rw [h2, upd_same, upd_same]
        · rw [upd_ne h2, upd_ne h2, upd_ne h1]
    rw [e1]
    exact q1 _ dx hn hd1 ne
  have hl : ([Value.ref (hp.objs.size + 1), u] ++ []).length = ps.length := by
    have e := r2.length
    rw [F1.len _ _ _ _ hq] at e
    exact e.symm
  refine wpAny_call (PySem.HandSPX.call_own F.excBase_ValueError (fun Y => PySem.HandSPX.refsVE_contains Y bm hbm) (I1.kIn _ _ hC) (PySem.W.looks_findIn I1.kIn iC) (fun self => PySem.W.bind_fn I1.kIn self tI) (by show 1 ≤ sizeLine; rw [sizeLine_eq]; omega)
    (codeAny_mono (F1.run _ X.stack _ _ ⟨[Value.ref (hp.objs.size + 1), u], []⟩ [Value.ref (hp.objs.size + 1), u] _ _ (fun _ _ _ => False) (hr.make _ [u] []) (I2.env0.make _ [u] []) (hb _ [Value.ref (hp.objs.size + 1), u] I2.kIn hl) r2 hq) fun r s' hq' => ?_))
  cases r with
  | error er => exact False.elim (by obtain ⟨_, _, _, _, _, _, _, _, _, _, _, _, z⟩ := hq'; exact z)
  | ok fl =>
    cases fl with
    | ret u =>
      obtain ⟨v, H', I3, rv, ev, q3⟩ := I2.after hq'
      subst ev
      exact ⟨rv, ⟨V.ref (hp.objs.size + 1), H', I3, rfl, q3⟩⟩
    | next => exact False.elim hq'
    | brk => exact False.elim hq'
    | cont => exact False.elim hq'
def eOex (C f : Str) (ta : DTA) : DTV := fun ρ => (ta ρ).bind fun as ρ => match as with
  | [.v d] => .ok (.exc C [(f, d)]) ρ
  | _ => .bad
/-- C(e), C's __init__ keeping its argument in the field f -/
theorem dv_oex {C f : Str} {k : Nat} {fI : Addr} {fd : FuncData} {ps : List Str} {ta : DTA} (T : oexFB X.K C f = true) (hfI : fI = He.ma X.K (He.ga X.K C) "__init__")
    (F1 : FnOk X.prog X.w X.K X.mg X.base (L2.CX X.prog X.w) k fI fd ps (spI (He.ga X.K C) f)) (hr : Room (k + 1) X.A) (hb : Binds X.K fd ps []) (hm : X.mg C = some (.ref (He.ga X.K C))) (ha : DA X σ0 W [e] ta) (hg : Gl X C := by rfl)
    (hdb : (C == ("__debug__" : Str)) = false := by decide) (he : starEach [e] X.env = (false, eval e X.env) :: starEach [] X.env := by rfl) (hpl : (backTo pos (starEach [] X.env)).any (·.1) = false := by rfl) :
    DV X σ0 W (.Call (.Name C p) [e] [] pos) (eOex C f ta) := by
  obtain ⟨t, pt, ht⟩ := ha.pf
  refine ⟨⟨_, pe_oex T hfI F1 hr hb hm pt hg hdb he hpl, fun σ F B H ρ Q E q => ht σ F B H ρ _ E (AOk.step q fun as ρ1 vs F1 B1 H1 g1 E1 r1 q1 => ?_)⟩⟩
  cases r1 with
  | nil => exact False.elim q1
  | @cons v a vs as r l =>
    cases l with
    | cons _ _ => cases a <;> exact False.elim q1
    | nil =>
      cases a with
      | o j => exact False.elim q1
      | v d =>
        refine ⟨v, rfl, fun a dx na nd ne => ?_⟩
        have q2 : VOk X.K σ0 W F1 B1 σ Q (.ok (.exc C [(f, d)]) ρ1) := VOk.gr g1 q1
        have n2 : upd H1 dx (exd dx [(f, v)]) a = none := by rw [upd_ne (Ne.symm ne)]; exact na
        have E2 := (E1.new (o := exd dx [(f, v)]) nd)
        have E3 := E2.new (o := exo a (He.ga X.K C) (some dx)) n2
        obtain ⟨b1, f1⟩ := E1.hp.none nd
        obtain ⟨b2, f2⟩ := E2.hp.none n2
        have r' : Rep X.K F1 v d := r
        refine q2 _ _ _ _ ((Gr.new b1 f1).trans (Gr.new b2 f2)) E3 (.exc upd_same (by rw [upd_ne ne]; exact upd_same) (.cons ?_ .nil))
        exact r'.mono (fun b u h => (Gr.new b2 f2).f b u ((Gr.new b1 f1).f b u h))
def eExc (C : Str) (te : DTV) : DTV := fun ρ => (te ρ).bind fun _ ρ => .ok (.exc C []) ρ
/-- C(e), an own exception class without __init__ -/
theorem dv_exc {C : Str} {te : DTV} (q : (He.Fa.exc C).ok X.K = true) (hm : X.mg C = some (.ref (He.ga X.K C))) (h : DV X σ0 W e te) (hg : Gl X C := by rfl) (hs : starEach [e] X.env = (false, eval e X.env) :: starEach [] X.env := by rfl) (hdb : (C == ("__debug__" : Str)) = false := by decide) :
    DV X σ0 W (.Call (.Name C p) [e] [] pos) (eExc C te) := by
  obtain ⟨t, pt, ht⟩ := h.pf
  obtain ⟨q1, q2, _, _⟩ := He.exc_ok q
  refine ⟨⟨_, pe_exc1 F.excBase_ValueError q1 hm q2 hg pt hs hdb, fun σ F B H ρ Q E q => ht σ F B H ρ _ E (VOk.step q fun d ρ1 v F1 B1 H1 g1 E1 r1 q3 => fun a na => ?_)⟩⟩
  have q4 : VOk X.K σ0 W F1 B1 σ Q (.ok (.exc C []) ρ1) := VOk.gr g1 q3
  obtain ⟨b1, f1⟩ := E1.hp.none na
  exact q4 _ _ _ _ (Gr.new b1 f1) (E1.new na) (.exc0 upd_same)
/-! ### len -/
theorem lenV {v : V} {d : D} {n : Int} (E : EnvR X.K σ0 F B H σ ρ) (r : BorR X.K F H v d) (h : lenD d = some n) : (∃ m : Nat, n = m ∧ LenV X.K v H m) ∨ ∃ a kvs, v = .ref a ∧ H a = some (.dK kvs) ∧ n = (kvs.length : Nat) := by
  cases d with
  | lst ds =>
    cases h
    obtain ⟨a, vs, rfl, ha, rl⟩ := BorR.lst E r
    exact .inl ⟨_, rfl, .inl ⟨vs, .inl (.inl ha), rl.length.symm⟩⟩
  | tup ds =>
    cases h
    rcases r with r | ⟨p, _, h⟩
    · cases r with
      | tup ha rl => exact .inl ⟨_, rfl, .inr ⟨_, E.st ha, rl.length.symm⟩⟩
    · exact h.elim
  | scr ns =>
    cases h
    rcases r with r | ⟨p, _, h⟩
    · cases r with
      | scr ha => exact .inl ⟨_, rfl, .inl ⟨_, E.sq ha, by rw [List.length_map]⟩⟩
    · exact h.elim
  | dct ks =>
    cases h
    obtain ⟨a, vs, rfl, ha, rl⟩ := BorR.dct E r
    exact .inr ⟨a, vs, rfl, ha, by
      have : ∀ {vs : List (Key × V)} {ds : List (Key × D)}, RepK X.K F vs ds → ds.length = vs.length := fun {vs ds} h => by
        induction ds generalizing vs with
        | nil => cases h; rfl
        | cons x l ih => cases h with | cons _ t => exact congrArg (· + 1) (ih t)
      rw [this rl]⟩
  | str x =>
    rcases r with r | ⟨p, _, h⟩
    · cases r
      have h : (if x.length ≤ sizeLine then some ((x.length : Nat) : Int) else none) = some n := h
      by_cases hz : x.length ≤ sizeLine
      · rw [if_pos hz] at h
        cases h
        exact .inl ⟨_, rfl, hz, rfl⟩
      · rw [if_neg hz] at h
        cases h
    · exact h.elim
  | _ => cases h
def lenF : List D → Option Slot
  | [d] => (lenD d).map fun n => .val (.int n)
  | _ => none
theorem cl_len : ClD X σ0 (.builtin "len") lenF := by
  intro pins s σ F B H ρ xs us ds sl Q I E rv rl hg q
  unfold lenF at hg
  split at hg
  · rename_i d
    cases hn : lenD d with
    | none => rw [hn] at hg; cases hg
    | some n =>
      rw [hn] at hg
      cases hg
      cases rl with
      | cons r1 rl =>
        cases rl
        rcases lenV E (.inl r1) hn with ⟨m, e, l⟩ | ⟨a, kvs, e, ha, en⟩
        · subst e
          exact call_len pins s σ H _ _ Q I rv ⟨_, _, rfl, l, q.val E (.int _)⟩
        · subst e en
          exact call_lenD pins s σ H _ _ Q I rv ⟨_, _, rfl, ha, q.val E (.int _)⟩
  · cases hg
/-- len(x), x a name: read where it stands -/
def eLenB (i : Nat) : DTV := fun ρ => opt ((peek i ρ).bind fun d => (lenD d).map D.int) ρ
theorem dv_lenB (i : Nat) {x : Str} {px : Pos} (hm : X.mg "len" = none) (hN : X.N[i]? = some x := by rfl) (hv : Vis X.env.scope x := by first | exact Or.inl rfl | exact Or.inr (Or.inl rfl) | exact Or.inr (Or.inr rfl)) (hg : Gl X "len" := by rfl) (hd : (x == ("__debug__" : Str)) = false := by decide)
    (hcd : (x == ("__classdict__" : Str)) = false := by decide) (hst : starEach [Expr.Name x px] X.env = (false, eval (.Name x px) X.env) :: starEach [] X.env := by rfl) (hpl : (backTo pos (starEach [] X.env)).any (·.1) = false := by rfl) : DV X σ0 W (.Call (.Name "len" p) [.Name x px] [] pos) (eLenB i) := by
  refine DV.of_run fun pins s σ F B H ρ Q I E q => ?_
  unfold eLenB at q
  cases hp : peek i ρ with
  | none => rw [hp] at q; exact False.elim q
  | some d =>
    rw [hp, Option.bind_some] at q
    obtain ⟨v0, hv0, b0⟩ := E.peek hp
    cases hz : lenD d with
    | none => rw [hz] at q; exact False.elim q
    | some z =>
      rw [hz] at q
      have q2 : Q (.int z) H := q _ F B H (Gr.refl F B) E (.int z)
      rcases lenV E b0 hz with ⟨m, e, l⟩ | ⟨a, kvs, e, ha, en⟩
      · subst e
        exact (pe_callB call_len hg hm boot_len (pa_cons (pe_var (X := X) (i := i) hN hv hd hcd) pa_nil hst) (by decide) (by decide) hst hpl).run pins s σ H Q I ⟨v0, hv0, _, _, rfl, l, q2⟩
      · subst e en
        exact (pe_callB call_lenD hg hm boot_len (pa_cons (pe_var (X := X) (i := i) hN hv hd hcd) pa_nil hst) (by decide) (by decide) hst hpl).run pins s σ H Q I ⟨_, hv0, _, _, rfl, ha, q2⟩
end
end DL

set_option Elab.async false
set_option linter.all false
set_option maxRecDepth 100000
set_option maxHeartbeats 2000017
namespace DL
open L2 PyProof.Rows PySem PySem.Spec

/-! ### names for the readings, as the printer writes them -/
def eF (te : DTE) : DTV := fun ρ => fz (te ρ)
def eV (te : DTV) : DTE := fun ρ => vl (te ρ)
def eIx (ta tb : DTV) : DTV := fun ρ => (ta ρ).bind fun d ρ1 => (tb ρ1).bind fun e ρ2 => opt (getD d e) ρ2
def eIxB (i : Nat) (tb : DTV) : DTV := fun ρ => (opt (peek i ρ) ρ).bind fun _ ρ => (tb ρ).bind fun e ρ2 => opt ((peek i ρ2).bind fun d => getD d e) ρ2
def eFn (n : Nat) (g : List Slot → Out) (ta : DTA) : DTE := fun ρ => (ta ρ).bind fun as ρ => callF n g as ρ
def tCmp (g : D → D → Option Slot) (ta tb : DTV) : DTT := fun ρ => asBE (eOp g ta tb ρ)
def tVal (te : DTV) : DTT := fun ρ => asB (te ρ)
def tNot (ta : DTT) : DTT := fun ρ => (ta ρ).bind fun b ρ => .ok (!b) ρ
def iLs (te : DTV) : DTI := fun ρ => (te ρ).bind fun d ρ => match d with | .lst ds => .ok ds ρ | _ => .bad
def eUn (g : D → Option Slot) (ta : DTV) : DTE := fun ρ => (ta ρ).bind fun d ρ1 => opt (g d) ρ1
def sBrk : DTS := fun ρ => .ok .brk ρ
def sCont : DTS := fun ρ => .ok .ct ρ
def sRetN : DTS := fun ρ => .ok (.ret (.val .non)) ρ
section
variable {X : Cx} {σ0 : L2.St} {W : WX} {pos p : Pos} {e a b : Expr} {es : List Expr} {te : DTE} {ta tb : DTV} {g : D → D → Option Slot}
theorem q_fz (h : DE X σ0 W e te) : DV X σ0 W e (eF te) := h.fz
theorem q_v (h : DV X σ0 W e ta) : DE X σ0 W e (eV ta) := h.e
theorem q_ix (ha : DV X σ0 W a ta) (hb : DV X σ0 W b tb) (hs : PlainIx b := by intro _ _; rfl) : DV X σ0 W (.Subscript a b pos) (eIx ta tb) := dv_ix ha hb hs
theorem q_ixB (i : Nat) {x : Str} {px : Pos} (hb : DV X σ0 W b tb) (hs : PlainIx b := by intro _ _; rfl) (hN : X.N[i]? = some x := by rfl) (hv : Vis X.env.scope x := by first | exact Or.inl rfl | exact Or.inr (Or.inl rfl) | exact Or.inr (Or.inr rfl)) (hd : (x == ("__debug__" : Str)) = false := by decide)
    (hcd : (x == ("__classdict__" : Str)) = false := by decide) : DV X σ0 W (.Subscript (.Name x px) b pos) (eIxB i tb) := dv_ixB i hb hs hN hv hd hcd
theorem q_op {op : Operator} (ho : OpD X σ0 (binaryOp op) g) (ha : DV X σ0 W a ta) (hb : DV X σ0 W b tb) : DE X σ0 W (.BinOp a op b pos) (eOp g ta tb) := dv_op ho ha hb
theorem q_un {op : UnaryOp} {g : D → Option Slot} (ho : UnD X σ0 (unaryOp op) g) (ha : DV X σ0 W a ta) : DE X σ0 W (.UnaryOp op a pos) (eUn g ta) := dv_un ho ha
theorem q_cmp {op : CmpOp} (ho : OpD X σ0 (compareOp op) g) (ha : DV X σ0 W a ta) (hb : DV X σ0 W b tb) (hm : behindInMarks op b = false := by with_unfolding_all rfl) : DE X σ0 W (.Compare a [op] [b] pos) (eOp g ta tb) := dv_cmp ho ha hb hm
theorem q_tcmp {op : CmpOp} (ho : OpD X σ0 (compareOp op) g) (ha : DV X σ0 W a ta) (hb : DV X σ0 W b tb) (hm : behindInMarks op b = false := by with_unfolding_all rfl) : DT X σ0 W (.Compare a [op] [b] pos) (tCmp g ta tb) := dt_cmp ho ha hb hm
theorem q_tval (h : DV X σ0 W e ta) (he : ∀ whole, isTrue e X.env whole = (do let v ← whole; standAt e.pos; holding [v] (truthy v)) := by intro _; rfl) : DT X σ0 W e (tVal ta) := dt_val h he
theorem q_tnot {t : DTT} (h : DT X σ0 W a t) : DT X σ0 W (.UnaryOp .Not a pos) (tNot t) := dt_not h
theorem q_ilist {tg : Expr} (he : DV X σ0 W e ta) : DI X σ0 W tg e (iLs ta) := di_list he
theorem q_brk : DS X σ0 W (.Break pos) sBrk := ds_break
theorem q_cont : DS X σ0 W (.Continue pos) sCont := ds_continue
theorem q_retN : DS X σ0 W (.Return none pos) sRetN := ds_retN
/-- a built-in type as a value -/
theorem q_ty {n : String} {x : Str} (hm : X.mg x = none) (hv : bootBuiltins x = some (.type n)) (hg : Gl X x := by rfl) (hn : x ≠ "__name__" := by decide) (hd : (x == ("__debug__" : Str)) = false := by decide) : DV X σ0 W (.Name x pos) (eC (.ty n)) :=
  ⟨⟨_, pe_bltn hg hm hv (v := .ty n) rfl hn hd, fun σ F B H ρ Q E q => q _ F B H (Gr.refl F B) E (.ty n)⟩⟩
theorem q_cls {C : Str} (hm : X.mg C = some (.ref (He.ga X.K C))) (hg : Gl X C := by rfl) (hd : (C == ("__debug__" : Str)) = false := by decide) : DV X σ0 W (.Name C pos) (eC (.cls C)) :=
  dv_glob (v := .ref (He.ga X.K C)) hm rfl (fun F => .cls C) hg hd
end

/-! ### what a law's text knows -/
structure Kn (fr gl : List Str) (T : KT) (A : ATb) (ox : List (Str × Str)) (ex : List Str) (K : Fg) (mg : Str → Option Value) : Prop where
  fr : ∀ x ∈ fr, mg x = none
  gl : ∀ x ∈ gl, mg x = some (.ref (He.ga K x))
  is : IsF K T
  at_ : AtF K A
  ox : ∀ p ∈ ox, oexFB K p.1 p.2 = true
  ex : ∀ C ∈ ex, (He.Fa.exc C).ok K = true
/-- a def of the text that does g -/
def Fun (P : Program) (w : World) (K : Fg) (mg : Str → Option Value) (base : Heap) (k n : Nat) (x : Str) (g : List Slot → Out) : Prop :=
  ∃ fd ps, FnOk P w K mg base (L2.CX P w) k (He.ga K x) fd ps (spD K n g) ∧ mg x = some (.ref (He.ga K x)) ∧ PySem.W.keepIn K (.ref (He.ga K x)) = true ∧ Binds K fd ps []
section
variable {X : Cx} {σ0 : L2.St} {W : WX} {pos p : Pos} {e : Expr} {es : List Expr} {ta : DTA}
theorem q_fun {k n : Nat} {x : Str} {g : List Slot → Out} (G : Fun X.prog X.w X.K X.mg X.base k n x g) (hr : Room k X.A) (tk : Takes X W) (ha : DA X σ0 W (e :: es) ta) (hg : Gl X x := by rfl) (hdb : (x == ("__debug__" : Str)) = false := by decide) (he : starEach (e :: es) X.env = (false, eval e X.env) :: starEach es X.env := by rfl) (hpl : (backTo pos (starEach es X.env)).any (·.1) = false := by rfl) :
    DE X σ0 W (.Call (.Name x p) (e :: es) [] pos) (eFn n g ta) := by
  obtain ⟨fd, ps, G, hm, hk, hb⟩ := G
  exact de_call G hr hm hk hb tk ha hg hdb he hpl
/-- an own exception class with an __init__ -/
def OexI (P : Program) (w : World) (K : Fg) (mg : Str → Option Value) (base : Heap) (k : Nat) (C f : Str) : Prop :=
  ∃ fd ps, FnOk P w K mg base (L2.CX P w) k (He.ma K (He.ga K C) "__init__") fd ps (spI (He.ga K C) f) ∧ Binds K fd ps [] ∧ oexFB K C f = true ∧ mg C = some (.ref (He.ga K C))
theorem q_oex {k : Nat} {C f : Str} (G : OexI X.prog X.w X.K X.mg X.base k C f) (hr : Room (k + 1) X.A) (ha : DA X σ0 W [e] ta) (hg : Gl X C := by rfl)
    (hdb : (C == ("__debug__" : Str)) = false := by decide) (he : starEach [e] X.env = (false, eval e X.env) :: starEach [] X.env := by rfl) (hpl : (backTo pos (starEach [] X.env)).any (·.1) = false := by rfl) :
    DV X σ0 W (.Call (.Name C p) [e] [] pos) (eOex C f ta) := by
  obtain ⟨fd, ps, G, hb, T, hm⟩ := G
  exact dv_oex T rfl G hr hb hm ha hg hdb he hpl
end
section
variable {P : Program} {w : World} {K : Fg} {mg : Str → Option Value} {base : Heap}
theorem fun_of {x qual : Str} {params : Arguments} {body : List Stmt} {scope : Scope} {N ps : List Str} {k : Nat} {ts : DTS} (Fn : ∃ fd, FunD K x qual params body scope [] [] (He.ga K x) fd) (gl : mg x = some (.ref (He.ga K x))) (S : FnScope N ps scope)
    (hbi : ∀ (kV doc pm : Value) (an : Option Addr) (cdv ct : Value) (us : List Value), us.length = ps.length → bindArgs (PySem.W.fnOf x qual params body scope .none kV doc pm an cdv ct) ⟨us, []⟩ = pure (ps.zip us))
    (hb : ∀ (f : Addr) (cdv : Value) (A : Around) (outer : List Env) (s : Shared) (H : Hp) (σ0 : L2.St) (E : XK), Room k (FX P w K mg base N qual scope f cdv A outer s H E).A → Takes (FX P w K mg base N qual scope f cdv A outer s H E) (WF E) → PassesOwn (model P w) (FX P w K mg base N qual scope f cdv A outer s H E).A (FX P w K mg base N qual scope f cdv A outer s H E).env (FX P w K mg base N qual scope f cdv A outer s H E).xe →
      DSs (FX P w K mg base N qual scope f cdv A outer s H E) σ0 (WF E) body ts) : Fun P w K mg base (k + 1) ps.length x (runF N.length ts) := by
  obtain ⟨fd, Fn⟩ := Fn
  exact ⟨fd, ps, fn_ok Fn S fun cdv A outer s H σ0 E hr tk hp => hb _ cdv A outer s H σ0 E hr tk hp, gl, Fn.kp, Fn.bindsN hbi⟩
theorem oex_of {C f self y nm qual : Str} {params : Arguments} {scope : Scope} {k : Nat} {p1 p2 p3 pos : Pos} {body : List Stmt} (Fn : ∃ fd, FunD K nm qual params body scope [] [] (He.ma K (He.ga K C) "__init__") fd) (gl : mg C = some (.ref (He.ga K C))) (S : FnScope [self, y] [self, y] scope) (T : oexFB K C f = true)
    (hbody : body = [.Assign [.Attribute (.Name self p1) f p2] (.Name y p3) pos])
    (hbi : ∀ (kV doc pm : Value) (an : Option Addr) (cdv ct : Value) (us : List Value), us.length = 2 → bindArgs (PySem.W.fnOf nm qual params body scope .none kV doc pm an cdv ct) ⟨us, []⟩ = pure ([self, y].zip us))
    (hs : ∀ env : Env, env.scope = scope → swapsWith (.Name y p3) (some (.Attribute (.Name self p1) f p2)) pos.line env = pure false)
    (hv1 : Vis scope self := by first | exact Or.inl rfl | exact Or.inr (Or.inl rfl) | exact Or.inr (Or.inr rfl)) (hv2 : Vis scope y := by first | exact Or.inl rfl | exact Or.inr (Or.inl rfl) | exact Or.inr (Or.inr rfl))
    (hd1 : (self == ("__debug__" : Str)) = false := by decide) (hd2 : (y == ("__debug__" : Str)) = false := by decide) (hc1 : (self == ("__classdict__" : Str)) = false := by decide) (hc2 : (y == ("__classdict__" : Str)) = false := by decide) :
    OexI P w K mg base (k + 1) C f := by
  subst hbody
  obtain ⟨fd, Fn⟩ := Fn
  exact ⟨fd, _, exc_init Fn S T hs hv1 hv2 hd1 hd2 hc1 hc2, Fn.bindsN hbi, T, gl⟩
end
theorem room_hu {k : Nat} {A : Around} (r : Room k A) : A.units + 64 < cLine := by
  have := r.un
  omega
/-! ### the law's end -/
theorem sp_law {K : Fg} {g : List Slot → Out} {H : Hp} {a : Addr} {ns : List Int} {os : List Slot} (hS : SqL K H a (ns.map V.int)) (hg : g [.val (.scr ns)] = .ret (.val (.bl true)) os) : spD K 1 g [.ref a] H (fun v _ => v = .bl true) fun _ _ _ => False := by
  refine ⟨H, H, [.val (.scr ns)], rfl, ⟨⟨Evl.Ex.refl H, Evl.Ex.refl H⟩, rfl, fun i d q => ?_, fun i t d q => ?_, fun i j t t' d d' p q => ?_⟩, ?_⟩
  · cases i with
    | zero => cases q; exact ⟨.ref a, rfl, .scr hS⟩
    | succ i => cases q
  · cases i <;> cases q
  · cases i <;> cases q
  · rw [hg]
    intro v F' B' H' _ _ r
    cases r
    rfl
theorem cx_no {P : Program} {w : World} (H : Hp) (s : Shared) (e : Value) (s' : Shared) (h : L2.CX P w [] H s (fun _ _ _ => False) e s') : False := by
  obtain ⟨_, _, _, _, _, _, _, _, _, _, _, _, z⟩ := h
  exact z
/-- one more Bool of the written part in the Hook -/
def obsX (fa : List He.Fa) (fn : List He.DefD) (ex : Fg → Bool) (K : Fg) : He.AlD := ((He.obsD fa fn K).1 && ex K, (He.obsD fa fn K).2)
def SaysX (fa : List He.Fa) (fn : List He.DefD) (ex : Fg → Bool) (K : Fg) : Prop := obsX fa fn ex K = He.valD fn
def obsXG (n : Nat) (fa : List He.Fa) (fn : List He.DefD) (ex : Fg → Bool) (g : Addr → Option Obj) : He.AlD := obsX fa fn ex (He.frG g (He.asD g n))
def hookX (n : Nat) (fa : List He.Fa) (fn : List He.DefD) (ex : Fg → Bool) : PySem.W.Hook where
  α := He.AlD
  obs := fun s => obsXG n fa fn ex s.heap.get?
  val := fun _ => He.valD fn
  says := fun _ h => ∃ K : Fg, K.In h ∧ SaysX fa fn ex K
  of := fun _ _ e => ⟨_, He.frG_in, e⟩
  keeps := fun _ _ _ ⟨K, hK, c⟩ k => ⟨K, PySem.W.Frag.In.keeps hK k, c⟩
theorem obsXG_eq {n : Nat} {fa : List He.Fa} {fn : List He.DefD} {ex : Fg → Bool} {g : Addr → Option Obj} {s : Shared} (h : ∀ a, g a = s.heap.get? a) : obsXG n fa fn ex g = (hookX n fa fn ex).obs s := by
  have e : g = s.heap.get? := funext h
  rw [e] <;> rfl
theorem SaysX.both {fa : List He.Fa} {fn : List He.DefD} {ex : Fg → Bool} {K : Fg} (c : SaysX fa fn ex K) : He.SaysD fa fn K ∧ ex K = true := by
  have c1 := He.ba (show ((He.obsD fa fn K).1 && ex K) = true from congrArg (fun z : He.AlD => z.1) c)
  have c2 : (He.obsD fa fn K).2 = fn.map He.DefD.val := congrArg (fun z : He.AlD => z.2) c
  refine ⟨?_, c1.2⟩
  show He.obsD fa fn K = He.valD fn
  exact Prod.ext c1.1 c2
/-- a law proved by its data function -/
theorem law_walk {l : PySem.W.OpenLaw} {n k : Nat} {q : Program} {loose : List Str} {XP : (Str → Option Value) → Heap → Prop} {YP : World → Heap → Prop} {d : DefRec} {g : List Slot → Out} {x : Str}
    (hn : l.most = some n) (hn2 : n ≤ sizeLine) (hdf : d.params.defaults = []) (hr : Room k callerA)
    (hg : ∀ ns : List Int, ns.length ≤ n → (∀ z ∈ ns, Builtin.Int.intBits z ≤ 1048576) → ∃ os, g [.val (.scr ns)] = .ret (.val (.bl true)) os)
    (F : ∀ (w : World) (mg : Str → Option Value) (fa : Addr) (h : Heap), YP w h → h.Ns mainGlobals mg → mg d.name = some (.ref fa) →
      ∃ (K : PySem.W.Frag) (fd : FuncData), K.In h ∧ (∀ (s : Shared) (u : Value), BindsTo s fd ⟨[u], []⟩ [(x, u)]) ∧
        ∀ base : Heap, K.In base → base.Ns mainGlobals mg → FnOk l.prog w K mg base (L2.CX l.prog w) k fa fd [x] (spD K 1 g)) :
    PySem.W.WalkO q loose XP YP l.row.toRowW d [] (fun f vs => PySem.call f vs) := by
  refine LamX.walk_ofTsE (x := x) (CX := fun w => L2.CX l.prog w) hn hn2 hdf hr (fun w mg fa h Y G hmg => ?_) fun w H s e s' => cx_no H s e s'
  obtain ⟨K, fd, KX, hb, hF⟩ := F w mg fa h Y G hmg
  refine ⟨K, KX, fd, [], spD K 1 g, (fun _ z => nomatch z), (fun _ z => nomatch z), (fun _ z => nomatch z), hb, fun H a ns hl hbits _ hS => ?_, fun base KB NB _ => hF base KB NB⟩
  obtain ⟨os, e⟩ := hg ns hl hbits
  exact sp_law hS e
end DL

set_option Elab.async false
set_option linter.all false
set_option maxRecDepth 100000
set_option maxHeartbeats 0
namespace DLaw
open L2 PyProof.Rows PySem PySem.Spec DL
def top (i : Nat) : Stmt := PySem.Challenge.pw_scanmisses_k63_errors_made.main.body.getD i (.Pass ⟨0, 0, 0, 0⟩)
def inCls (s : Stmt) (j : Nat) : Stmt := match s with
  | .ClassDef _ _ _ b _ _ _ _ _ _ _ => b.getD j (.Pass ⟨0, 0, 0, 0⟩)
  | _ => .Pass ⟨0, 0, 0, 0⟩
abbrev FnP (K : Fg) (x : Str) (st : Stmt) : Prop := ∃ fd, FunD K x x (defArgs st) (defBody st) (defScope st) [] [] (He.ga K x) fd
def frees : List Str := ["ValueError", "enumerate", "int", "isinstance", "len", "max", "range"]
def glos : List Str := ["InvalidAddress", "InvalidCommand", "InvalidIndex", "InvalidInterval", "InvalidList", "InvalidNumber", "InvalidOperation", "InvalidPoints", "InvalidProfile", "InvalidProgram", "InvalidPrograms", "InvalidScan", "InvalidScans", "InvalidSize", "InvalidSizes", "InvalidSummary", "InvalidText", "Nothing", "ScanError", "TooLarge", "TooManyMisses", "_law_bag", "_law_classes", "_law_made", "_law_pick", "law"]
def errs : List Str := ["InvalidText", "TooLarge", "TooManyMisses", "InvalidProgram", "InvalidScan", "InvalidList", "InvalidAddress", "InvalidSize", "InvalidNumber", "InvalidIndex", "InvalidProfile", "InvalidSummary", "InvalidSizes", "InvalidScans", "InvalidPrograms", "InvalidPoints", "InvalidInterval", "InvalidOperation", "Nothing", "InvalidCommand"]
def kt : KT := (("ScanError" : Str) :: errs).map fun c => (Kd.exc c, (Kd.ty "ValueError", true) :: ((("ScanError" : Str) :: errs).map fun d => (Kd.ins d, d == c || d == ("ScanError" : Str))))
def attrs : ATb := [(true, "InvalidText", "index"), (true, "TooLarge", "limit"), (true, "TooManyMisses", "total")]
def oxs : List (Str × Str) := [("InvalidText", "index"), ("TooLarge", "limit"), ("TooManyMisses", "total")]
def excs : List Str := ["InvalidAddress", "InvalidCommand", "InvalidIndex", "InvalidInterval", "InvalidList", "InvalidNumber", "InvalidOperation", "InvalidPoints", "InvalidProfile", "InvalidProgram", "InvalidPrograms", "InvalidScan", "InvalidScans", "InvalidSize", "InvalidSizes", "InvalidSummary", "Nothing", "ScanError"]
abbrev Kc (K : Fg) (mg : Str → Option Value) : Prop := Kn frees glos kt attrs oxs excs K mg
def Ox (P : Program) (w : World) (K : Fg) (mg : Str → Option Value) (base : Heap) : Prop := ∀ C f : Str, (C, f) ∈ oxs → OexI P w K mg base 1 C f
def s__law_classes : DTS := (sSeq (sSet 1 (eLst (aCons (eF (eCall (isiF kt) (aCons (eVar 0) (aCons (eC (.cls "InvalidText")) aNil)))) (aCons (eF (eCall (isiF kt) (aCons (eVar 0) (aCons (eC (.cls "TooLarge")) aNil)))) (aCons (eF (eCall (isiF kt) (aCons (eVar 0) (aCons (eC (.cls "TooManyMisses")) aNil)))) aNil))))) (sSeq (sSet 1 (eOp addD (eVar 1) (eF (eLst (aCons (eF (eCall (isiF kt) (aCons (eVar 0) (aCons (eC (.cls "InvalidProgram")) aNil)))) (aCons (eF (eCall (isiF kt) (aCons (eVar 0) (aCons (eC (.cls "InvalidScan")) aNil)))) (aCons (eF (eCall (isiF kt) (aCons (eVar 0) (aCons (eC (.cls "InvalidList")) aNil)))) aNil))))))) (sSeq (sSet 1 (eOp addD (eVar 1) (eF (eLst (aCons (eF (eCall (isiF kt) (aCons (eVar 0) (aCons (eC (.cls "InvalidAddress")) aNil)))) (aCons (eF (eCall (isiF kt) (aCons (eVar 0) (aCons (eC (.cls "InvalidSize")) aNil)))) (aCons (eF (eCall (isiF kt) (aCons (eVar 0) (aCons (eC (.cls "InvalidNumber")) aNil)))) aNil))))))) (sSeq (sSet 1 (eOp addD (eVar 1) (eF (eLst (aCons (eF (eCall (isiF kt) (aCons (eVar 0) (aCons (eC (.cls "InvalidIndex")) aNil)))) (aCons (eF (eCall (isiF kt) (aCons (eVar 0) (aCons (eC (.cls "InvalidProfile")) aNil)))) (aCons (eF (eCall (isiF kt) (aCons (eVar 0) (aCons (eC (.cls "InvalidSummary")) aNil)))) aNil))))))) (sSeq (sSet 1 (eOp addD (eVar 1) (eF (eLst (aCons (eF (eCall (isiF kt) (aCons (eVar 0) (aCons (eC (.cls "InvalidSizes")) aNil)))) (aCons (eF (eCall (isiF kt) (aCons (eVar 0) (aCons (eC (.cls "InvalidScans")) aNil)))) (aCons (eF (eCall (isiF kt) (aCons (eVar 0) (aCons (eC (.cls "InvalidPrograms")) aNil)))) aNil))))))) (sSeq (sSet 1 (eOp addD (eVar 1) (eF (eLst (aCons (eF (eCall (isiF kt) (aCons (eVar 0) (aCons (eC (.cls "InvalidPoints")) aNil)))) (aCons (eF (eCall (isiF kt) (aCons (eVar 0) (aCons (eC (.cls "InvalidInterval")) aNil)))) aNil)))))) (sSeq (sSet 1 (eOp addD (eVar 1) (eF (eLst (aCons (eF (eCall (isiF kt) (aCons (eVar 0) (aCons (eC (.cls "InvalidOperation")) aNil)))) (aCons (eF (eCall (isiF kt) (aCons (eVar 0) (aCons (eC (.cls "Nothing")) aNil)))) (aCons (eF (eCall (isiF kt) (aCons (eVar 0) (aCons (eC (.cls "InvalidCommand")) aNil)))) aNil))))))) (sRet (eV (eVar 1))))))))))
def N__law_classes : List Str := ["one", "found"]
def g__law_classes : List Slot → Out := runF 2 s__law_classes
theorem sc__law_classes : FnScope N__law_classes ["one"] (defScope (top 26)) := ⟨rfl, rfl, rfl, by decide +kernel, rfl, by decide +kernel, by decide +kernel⟩
theorem ok__law_classes {P : Program} {w : World} {K : Fg} {mg : Str → Option Value} {base : Heap} (c : Kc K mg) (x_ : Ox P w K mg base)  (Fn : FnP K "_law_classes" (top 26)) : Fun P w K mg base 1 1 "_law_classes" g__law_classes := by
  refine fun_of (k := 0) (N := N__law_classes) (ps := ["one"]) (ts := s__law_classes) Fn (c.gl "_law_classes" (by decide)) sc__law_classes (fun _ _ _ _ _ _ us hl => match us, hl with | [_], _ => rfl) (fun f cdv A outer s H σ0 E hr tk hp => ?_)
  have nd := sc__law_classes.nd
  exact (dss_cons (ds_set 1 (de_lst (da_cons (q_fz (de_callB (cl_isi c.is) (c.fr "isinstance" (by decide)) (by decide +kernel) (da_cons (dv_var 0) (da_cons (q_cls (c.gl "InvalidText" (by decide))) da_nil)))) (da_cons (q_fz (de_callB (cl_isi c.is) (c.fr "isinstance" (by decide)) (by decide +kernel) (da_cons (dv_var 0) (da_cons (q_cls (c.gl "TooLarge" (by decide))) da_nil)))) (da_cons (q_fz (de_callB (cl_isi c.is) (c.fr "isinstance" (by decide)) (by decide +kernel) (da_cons (dv_var 0) (da_cons (q_cls (c.gl "TooManyMisses" (by decide))) da_nil)))) da_nil)))) nd) (dss_cons (ds_set 1 (q_op op_addD (dv_var 1) (q_fz (de_lst (da_cons (q_fz (de_callB (cl_isi c.is) (c.fr "isinstance" (by decide)) (by decide +kernel) (da_cons (dv_var 0) (da_cons (q_cls (c.gl "InvalidProgram" (by decide))) da_nil)))) (da_cons (q_fz (de_callB (cl_isi c.is) (c.fr "isinstance" (by decide)) (by decide +kernel) (da_cons (dv_var 0) (da_cons (q_cls (c.gl "InvalidScan" (by decide))) da_nil)))) (da_cons (q_fz (de_callB (cl_isi c.is) (c.fr "isinstance" (by decide)) (by decide +kernel) (da_cons (dv_var 0) (da_cons (q_cls (c.gl "InvalidList" (by decide))) da_nil)))) da_nil)))))) nd) (dss_cons (ds_set 1 (q_op op_addD (dv_var 1) (q_fz (de_lst (da_cons (q_fz (de_callB (cl_isi c.is) (c.fr "isinstance" (by decide)) (by decide +kernel) (da_cons (dv_var 0) (da_cons (q_cls (c.gl "InvalidAddress" (by decide))) da_nil)))) (da_cons (q_fz (de_callB (cl_isi c.is) (c.fr "isinstance" (by decide)) (by decide +kernel) (da_cons (dv_var 0) (da_cons (q_cls (c.gl "InvalidSize" (by decide))) da_nil)))) (da_cons (q_fz (de_callB (cl_isi c.is) (c.fr "isinstance" (by decide)) (by decide +kernel) (da_cons (dv_var 0) (da_cons (q_cls (c.gl "InvalidNumber" (by decide))) da_nil)))) da_nil)))))) nd) (dss_cons (ds_set 1 (q_op op_addD (dv_var 1) (q_fz (de_lst (da_cons (q_fz (de_callB (cl_isi c.is) (c.fr "isinstance" (by decide)) (by decide +kernel) (da_cons (dv_var 0) (da_cons (q_cls (c.gl "InvalidIndex" (by decide))) da_nil)))) (da_cons (q_fz (de_callB (cl_isi c.is) (c.fr "isinstance" (by decide)) (by decide +kernel) (da_cons (dv_var 0) (da_cons (q_cls (c.gl "InvalidProfile" (by decide))) da_nil)))) (da_cons (q_fz (de_callB (cl_isi c.is) (c.fr "isinstance" (by decide)) (by decide +kernel) (da_cons (dv_var 0) (da_cons (q_cls (c.gl "InvalidSummary" (by decide))) da_nil)))) da_nil)))))) nd) (dss_cons (ds_set 1 (q_op op_addD (dv_var 1) (q_fz (de_lst (da_cons (q_fz (de_callB (cl_isi c.is) (c.fr "isinstance" (by decide)) (by decide +kernel) (da_cons (dv_var 0) (da_cons (q_cls (c.gl "InvalidSizes" (by decide))) da_nil)))) (da_cons (q_fz (de_callB (cl_isi c.is) (c.fr "isinstance" (by decide)) (by decide +kernel) (da_cons (dv_var 0) (da_cons (q_cls (c.gl "InvalidScans" (by decide))) da_nil)))) (da_cons (q_fz (de_callB (cl_isi c.is) (c.fr "isinstance" (by decide)) (by decide +kernel) (da_cons (dv_var 0) (da_cons (q_cls (c.gl "InvalidPrograms" (by decide))) da_nil)))) da_nil)))))) nd) (dss_cons (ds_set 1 (q_op op_addD (dv_var 1) (q_fz (de_lst (da_cons (q_fz (de_callB (cl_isi c.is) (c.fr "isinstance" (by decide)) (by decide +kernel) (da_cons (dv_var 0) (da_cons (q_cls (c.gl "InvalidPoints" (by decide))) da_nil)))) (da_cons (q_fz (de_callB (cl_isi c.is) (c.fr "isinstance" (by decide)) (by decide +kernel) (da_cons (dv_var 0) (da_cons (q_cls (c.gl "InvalidInterval" (by decide))) da_nil)))) da_nil))))) nd) (dss_cons (ds_set 1 (q_op op_addD (dv_var 1) (q_fz (de_lst (da_cons (q_fz (de_callB (cl_isi c.is) (c.fr "isinstance" (by decide)) (by decide +kernel) (da_cons (dv_var 0) (da_cons (q_cls (c.gl "InvalidOperation" (by decide))) da_nil)))) (da_cons (q_fz (de_callB (cl_isi c.is) (c.fr "isinstance" (by decide)) (by decide +kernel) (da_cons (dv_var 0) (da_cons (q_cls (c.gl "Nothing" (by decide))) da_nil)))) (da_cons (q_fz (de_callB (cl_isi c.is) (c.fr "isinstance" (by decide)) (by decide +kernel) (da_cons (dv_var 0) (da_cons (q_cls (c.gl "InvalidCommand" (by decide))) da_nil)))) da_nil)))))) nd) (dss_one (ds_ret (q_v (dv_var 1)))))))))))
def s__law_made : DTS := (sSeq (sSet 1 (eLst (aCons (eOex "InvalidText" "index" (aCons (eVar 0) aNil)) (aCons (eOex "TooLarge" "limit" (aCons (eVar 0) aNil)) (aCons (eOex "TooManyMisses" "total" (aCons (eVar 0) aNil)) (aCons (eExc "InvalidProgram" (eC (.str "x"))) (aCons (eExc "InvalidScan" (eC (.str "x"))) aNil))))))) (sSeq (sSet 1 (eOp addD (eVar 1) (eF (eLst (aCons (eExc "InvalidList" (eC (.str "x"))) (aCons (eExc "InvalidAddress" (eC (.str "x"))) (aCons (eExc "InvalidSize" (eC (.str "x"))) (aCons (eExc "InvalidNumber" (eC (.str "x"))) (aCons (eExc "InvalidIndex" (eC (.str "x"))) aNil))))))))) (sSeq (sSet 1 (eOp addD (eVar 1) (eF (eLst (aCons (eExc "InvalidProfile" (eC (.str "x"))) (aCons (eExc "InvalidSummary" (eC (.str "x"))) (aCons (eExc "InvalidSizes" (eC (.str "x"))) (aCons (eExc "InvalidScans" (eC (.str "x"))) aNil)))))))) (sSeq (sSet 1 (eOp addD (eVar 1) (eF (eLst (aCons (eExc "InvalidPrograms" (eC (.str "x"))) (aCons (eExc "InvalidPoints" (eC (.str "x"))) (aCons (eExc "InvalidInterval" (eC (.str "x"))) (aCons (eExc "InvalidOperation" (eC (.str "x"))) aNil)))))))) (sRet (eOp addD (eVar 1) (eF (eLst (aCons (eExc "Nothing" (eC (.str "x"))) (aCons (eExc "InvalidCommand" (eC (.str "x"))) aNil))))))))))
def N__law_made : List Str := ["number", "found"]
def g__law_made : List Slot → Out := runF 2 s__law_made
theorem sc__law_made : FnScope N__law_made ["number"] (defScope (top 25)) := ⟨rfl, rfl, rfl, by decide +kernel, rfl, by decide +kernel, by decide +kernel⟩
theorem ok__law_made {P : Program} {w : World} {K : Fg} {mg : Str → Option Value} {base : Heap} (c : Kc K mg) (x_ : Ox P w K mg base)  (Fn : FnP K "_law_made" (top 25)) : Fun P w K mg base 3 1 "_law_made" g__law_made := by
  refine fun_of (k := 2) (N := N__law_made) (ps := ["number"]) (ts := s__law_made) Fn (c.gl "_law_made" (by decide)) sc__law_made (fun _ _ _ _ _ _ us hl => match us, hl with | [_], _ => rfl) (fun f cdv A outer s H σ0 E hr tk hp => ?_)
  have nd := sc__law_made.nd
  exact (dss_cons (ds_set 1 (de_lst (da_cons (q_oex (x_ "InvalidText" "index" (by decide)) (hr.mono (by decide)) (da_cons (dv_var 0) da_nil)) (da_cons (q_oex (x_ "TooLarge" "limit" (by decide)) (hr.mono (by decide)) (da_cons (dv_var 0) da_nil)) (da_cons (q_oex (x_ "TooManyMisses" "total" (by decide)) (hr.mono (by decide)) (da_cons (dv_var 0) da_nil)) (da_cons (dv_exc (c.ex "InvalidProgram" (by decide)) (c.gl "InvalidProgram" (by decide)) dv_str) (da_cons (dv_exc (c.ex "InvalidScan" (by decide)) (c.gl "InvalidScan" (by decide)) dv_str) da_nil)))))) nd) (dss_cons (ds_set 1 (q_op op_addD (dv_var 1) (q_fz (de_lst (da_cons (dv_exc (c.ex "InvalidList" (by decide)) (c.gl "InvalidList" (by decide)) dv_str) (da_cons (dv_exc (c.ex "InvalidAddress" (by decide)) (c.gl "InvalidAddress" (by decide)) dv_str) (da_cons (dv_exc (c.ex "InvalidSize" (by decide)) (c.gl "InvalidSize" (by decide)) dv_str) (da_cons (dv_exc (c.ex "InvalidNumber" (by decide)) (c.gl "InvalidNumber" (by decide)) dv_str) (da_cons (dv_exc (c.ex "InvalidIndex" (by decide)) (c.gl "InvalidIndex" (by decide)) dv_str) da_nil)))))))) nd) (dss_cons (ds_set 1 (q_op op_addD (dv_var 1) (q_fz (de_lst (da_cons (dv_exc (c.ex "InvalidProfile" (by decide)) (c.gl "InvalidProfile" (by decide)) dv_str) (da_cons (dv_exc (c.ex "InvalidSummary" (by decide)) (c.gl "InvalidSummary" (by decide)) dv_str) (da_cons (dv_exc (c.ex "InvalidSizes" (by decide)) (c.gl "InvalidSizes" (by decide)) dv_str) (da_cons (dv_exc (c.ex "InvalidScans" (by decide)) (c.gl "InvalidScans" (by decide)) dv_str) da_nil))))))) nd) (dss_cons (ds_set 1 (q_op op_addD (dv_var 1) (q_fz (de_lst (da_cons (dv_exc (c.ex "InvalidPrograms" (by decide)) (c.gl "InvalidPrograms" (by decide)) dv_str) (da_cons (dv_exc (c.ex "InvalidPoints" (by decide)) (c.gl "InvalidPoints" (by decide)) dv_str) (da_cons (dv_exc (c.ex "InvalidInterval" (by decide)) (c.gl "InvalidInterval" (by decide)) dv_str) (da_cons (dv_exc (c.ex "InvalidOperation" (by decide)) (c.gl "InvalidOperation" (by decide)) dv_str) da_nil))))))) nd) (dss_one (ds_ret (q_op op_addD (dv_var 1) (q_fz (de_lst (da_cons (dv_exc (c.ex "Nothing" (by decide)) (c.gl "Nothing" (by decide)) dv_str) (da_cons (dv_exc (c.ex "InvalidCommand" (by decide)) (c.gl "InvalidCommand" (by decide)) dv_str) da_nil)))))))))))
def s__law_pick : DTS := (sSeq (sPut 0 (eC (.int 2)) (eF (eOp addD (eIxB 0 (eC (.int 2))) (eC (.int 1))))) (sSeq (sIf (tCmp gtD (eIxB 0 (eC (.int 0))) (eC (.int 0))) (sSeq (sSet 2 (eOp modD (eF (eCall intD (aCons (eIxB 0 (eC (.int 0))) aNil))) (eVar 1))) (sSeq (sPut 0 (eC (.int 0)) (eF (eOp fdivD (eF (eCall intD (aCons (eIxB 0 (eC (.int 0))) aNil))) (eVar 1)))) (sRet (eV (eVar 2))))) sNext) (sSeq (two (eCall intD (aCons (eIxB 0 (eC (.int 1))) aNil)) (eCall intD (aCons (eIxB 0 (eC (.int 2))) aNil)) (put2 3 4)) (sSeq (sSet 5 (eOp modD (eF (eCall intD (aCons (eF (eOp addD (eF (eOp addD (eF (eOp mulD (eF (eOp modD (eVar 3) (eC (.int 2147483629)))) (eC (.int 48271)))) (eF (eOp mulD (eVar 4) (eC (.int 69621)))))) (eC (.int 12345)))) aNil))) (eC (.int 2147483647)))) (sSeq (sSet 6 (eOp modD (eF (eCall intD (aCons (eF (eOp addD (eF (eOp mulD (eVar 5) (eVar 5))) (eF (eOp mulD (eVar 4) (eC (.int 40692)))))) aNil))) (eC (.int 2147483587)))) (sRet (eOp modD (eF (eCall intD (aCons (eF (eOp fdivD (eF (eOp addD (eF (eOp mulD (eVar 5) (eC (.int 2147483587)))) (eVar 6))) (eC (.int 32)))) aNil))) (eVar 1))))))))
def N__law_pick : List Str := ["bag", "many", "told", "seed", "turn", "first", "second"]
def g__law_pick : List Slot → Out := runF 7 s__law_pick
theorem sc__law_pick : FnScope N__law_pick ["bag", "many"] (defScope (top 24)) := ⟨rfl, rfl, rfl, by decide +kernel, rfl, by decide +kernel, by decide +kernel⟩
theorem ok__law_pick {P : Program} {w : World} {K : Fg} {mg : Str → Option Value} {base : Heap} (c : Kc K mg) (x_ : Ox P w K mg base)  (Fn : FnP K "_law_pick" (top 24)) : Fun P w K mg base 1 2 "_law_pick" g__law_pick := by
  refine fun_of (k := 0) (N := N__law_pick) (ps := ["bag", "many"]) (ts := s__law_pick) Fn (c.gl "_law_pick" (by decide)) sc__law_pick (fun _ _ _ _ _ _ us hl => match us, hl with | [_, _], _ => rfl) (fun f cdv A outer s H σ0 E hr tk hp => ?_)
  have nd := sc__law_pick.nd
  exact (dss_cons (ds_put 0 (q_fz (q_op op_addD (q_ixB 0 dv_int) dv_int)) dv_int) (dss_cons (ds_if (q_tcmp op_gtD (q_ixB 0 dv_int) dv_int) (dss_cons (ds_set 2 (q_op op_modD (q_fz (de_callTy cl_int (c.fr "int" (by decide)) (by decide +kernel) (da_cons (q_ixB 0 dv_int) da_nil))) (dv_var 1)) nd) (dss_cons (ds_put 0 (q_fz (q_op op_fdivD (q_fz (de_callTy cl_int (c.fr "int" (by decide)) (by decide +kernel) (da_cons (q_ixB 0 dv_int) da_nil))) (dv_var 1))) dv_int) (dss_one (ds_ret (q_v (dv_var 2)))))) dss_nil) (dss_cons (ds_par 3 4 rfl (de_callTy cl_int (c.fr "int" (by decide)) (by decide +kernel) (da_cons (q_ixB 0 dv_int) da_nil)) (de_callTy cl_int (c.fr "int" (by decide)) (by decide +kernel) (da_cons (q_ixB 0 dv_int) da_nil)) nd) (dss_cons (ds_set 5 (q_op op_modD (q_fz (de_callTy cl_int (c.fr "int" (by decide)) (by decide +kernel) (da_cons (q_fz (q_op op_addD (q_fz (q_op op_addD (q_fz (q_op op_mulD (q_fz (q_op op_modD (dv_var 3) dv_int)) dv_int)) (q_fz (q_op op_mulD (dv_var 4) dv_int)))) dv_int)) da_nil))) dv_int) nd) (dss_cons (ds_set 6 (q_op op_modD (q_fz (de_callTy cl_int (c.fr "int" (by decide)) (by decide +kernel) (da_cons (q_fz (q_op op_addD (q_fz (q_op op_mulD (dv_var 5) (dv_var 5))) (q_fz (q_op op_mulD (dv_var 4) dv_int)))) da_nil))) dv_int) nd) (dss_one (ds_ret (q_op op_modD (q_fz (de_callTy cl_int (c.fr "int" (by decide)) (by decide +kernel) (da_cons (q_fz (q_op op_fdivD (q_fz (q_op op_addD (q_fz (q_op op_mulD (dv_var 5) dv_int)) (dv_var 6))) dv_int)) da_nil))) (dv_var 1)))))))))
def s__law_bag : DTS := (sRet (eLst (aCons (eF (eCall maxD (aCons (eC (.int 0)) (aCons (eF (eOp subD (eVar 0) (eF (eOp powD (eC (.int 10)) (eC (.int 18)))))) aNil)))) (aCons (eVar 0) (aCons (eC (.int 0)) aNil)))))
def N__law_bag : List Str := ["cell"]
def g__law_bag : List Slot → Out := runF 1 s__law_bag
theorem sc__law_bag : FnScope N__law_bag ["cell"] (defScope (top 23)) := ⟨rfl, rfl, rfl, by decide +kernel, rfl, by decide +kernel, by decide +kernel⟩
theorem ok__law_bag {P : Program} {w : World} {K : Fg} {mg : Str → Option Value} {base : Heap} (c : Kc K mg) (x_ : Ox P w K mg base)  (Fn : FnP K "_law_bag" (top 23)) : Fun P w K mg base 1 1 "_law_bag" g__law_bag := by
  refine fun_of (k := 0) (N := N__law_bag) (ps := ["cell"]) (ts := s__law_bag) Fn (c.gl "_law_bag" (by decide)) sc__law_bag (fun _ _ _ _ _ _ us hl => match us, hl with | [_], _ => rfl) (fun f cdv A outer s H σ0 E hr tk hp => ?_)
  have nd := sc__law_bag.nd
  exact (dss_one (ds_ret (de_lst (da_cons (q_fz (de_callB (cl_max rfl) (c.fr "max" (by decide)) (by decide +kernel) (da_cons dv_int (da_cons (q_fz (q_op op_subD (dv_var 0) (q_fz (q_op op_powD dv_int dv_int)))) da_nil)))) (da_cons (dv_var 0) (da_cons dv_int da_nil))))))
def s_law_1 : DTS := (sSeq (sIf (tOr (tNot (tVal (eF (eCall (isiF kt) (aCons (eVar 6) (aCons (eC (.cls "ScanError")) aNil)))))) (tNot (tVal (eF (eCall (isiF kt) (aCons (eVar 6) (aCons (eC (.ty "ValueError")) aNil))))))) (sRet (eV (eC (.bl false)))) sNext) (sIf (tCmp neD (eF (eFn 1 g__law_classes (aCons (eVar 6) aNil))) (eF (eComp [8] (iRng1 (aCons (eLenB 4) aNil)) (putV 8) tYes (eF (eOp eqD (eVar 8) (eVar 5)))))) (sRet (eV (eC (.bl false)))) sNext))
def s_law_0 : DTS := (sSeq (sSet 3 (eFn 2 g__law_pick (aOwn 1 (aCons (eIx (eF (eLst (aCons (eC (.int 9)) (aCons (eF (eOp powD (eC (.int 10)) (eC (.int 60)))) aNil)))) (eF (eOp modD (eVar 2) (eC (.int 2))))) aNil)))) (sSeq (sSet 4 (eFn 1 g__law_made (aCons (eVar 3) aNil))) (sSeq (sFor (iEnum (aCons (eVar 4) aNil)) (gTup 2 (gCons (putV 5) (gCons (putV 6) gNil))) s_law_1) (sIf (tCmp neD (eF (eLst (aCons (eAttr attrs "index" (eIxB 4 (eC (.int 0)))) (aCons (eAttr attrs "limit" (eIxB 4 (eC (.int 1)))) (aCons (eAttr attrs "total" (eIxB 4 (eC (.int 2)))) aNil))))) (eF (eOp mulD (eF (eLst (aCons (eVar 3) aNil))) (eC (.int 3))))) (sRet (eV (eC (.bl false)))) sNext))))
def s_law : DTS := (sSeq (sSet 1 (eFn 1 g__law_bag (aCons (eIx (eF (eOp addD (eVar 0) (eF (eLst (aCons (eC (.int 0)) aNil))))) (eC (.int 0))) aNil))) (sSeq (sFor (iRng1 (aCons (eC (.int 4)) aNil)) (putV 2) s_law_0) (sSeq (sSet 7 (eV (eExc "ScanError" (eC (.str "x"))))) (sRet (eV (vAnd (eF (eOp isD (eAttr attrs "index" (eOex "InvalidText" "index" (aCons (eC .non) aNil))) (eC .non))) (vAnd (eF (eOp notinD (eC (.bl true)) (eF (eFn 1 g__law_classes (aCons (eVar 7) aNil))))) (eF (eCall (isiF kt) (aCons (eVar 7) (aCons (eC (.ty "ValueError")) aNil)))))))))))
def N_law : List Str := ["script", "bag", "turn", "number", "made", "k", "one", "base", "j"]
def g_law : List Slot → Out := runF 9 s_law
theorem sc_law : FnScope N_law ["script"] (defScope (top 27)) := ⟨rfl, rfl, rfl, by decide +kernel, rfl, by decide +kernel, by decide +kernel⟩
theorem ok_law_fn {P : Program} {w : World} {K : Fg} {mg : Str → Option Value} {base : Heap} (c : Kc K mg) (x_ : Ox P w K mg base) (h__law_classes : Fun P w K mg base 1 1 "_law_classes" g__law_classes) (h__law_made : Fun P w K mg base 3 1 "_law_made" g__law_made) (h__law_pick : Fun P w K mg base 1 2 "_law_pick" g__law_pick) (h__law_bag : Fun P w K mg base 1 1 "_law_bag" g__law_bag) {fd : FuncData} (F : FunD K "law" "law" (defArgs (top 27)) (defBody (top 27)) (defScope (top 27)) [] [] (He.ga K "law") fd) : FnOk P w K mg base (L2.CX P w) 4 (He.ga K "law") fd ["script"] (spD K 1 g_law) := by
  refine fn_ok (k := 3) (N := N_law) (ps := ["script"]) (ts := s_law) F sc_law (fun cdv A outer s H σ0 E hr tk hp => ?_)
  have nd := sc_law.nd
  exact (dss_cons (ds_set 1 (q_fun h__law_bag (hr.mono (by decide)) tk (da_cons (q_ix (q_fz (q_op op_addD (dv_var 0) (q_fz (de_lst (da_cons dv_int da_nil))))) dv_int) da_nil)) nd) (dss_cons (ds_for hp rfl (di_range1 (c.fr "range" (by decide)) (da_cons dv_int da_nil)) (dg_name 2 nd) (show DSs _ _ _ _ s_law_0 from (dss_cons (ds_set 3 (q_fun h__law_pick (hr.mono (by decide)) tk (da_own 1 (da_cons (q_ix (q_fz (de_lst (da_cons dv_int (da_cons (q_fz (q_op op_powD dv_int dv_int)) da_nil)))) (q_fz (q_op op_modD (dv_var 2) dv_int))) da_nil))) nd) (dss_cons (ds_set 4 (q_fun h__law_made (hr.mono (by decide)) tk (da_cons (dv_var 3) da_nil)) nd) (dss_cons (ds_for hp rfl (di_enum (c.fr "enumerate" (by decide)) (da_cons (dv_var 4) da_nil)) (dg_tup rfl (dgs_cons (dg_name 5 nd) (dgs_cons (dg_name 6 nd) dgs_nil))) (show DSs _ _ _ _ s_law_1 from (dss_cons (ds_if (DW.t (dw_or (q_tnot (q_tval (q_fz (de_callB (cl_isi c.is) (c.fr "isinstance" (by decide)) (by decide +kernel) (da_cons (dv_var 6) (da_cons (q_cls (c.gl "ScanError" (by decide))) da_nil)))))) (dw_or1 (q_tnot (q_tval (q_fz (de_callB (cl_isi c.is) (c.fr "isinstance" (by decide)) (by decide +kernel) (da_cons (dv_var 6) (da_cons (q_ty (c.fr "ValueError" (by decide)) (by decide +kernel)) da_nil))))))))) (dss_one (ds_ret (q_v dv_bl))) dss_nil) (dss_one (ds_if (q_tcmp (op_neDd (room_hu hr)) (q_fz (q_fun h__law_classes (hr.mono (by decide)) tk (da_cons (dv_var 6) da_nil))) (q_fz (de_comp (own := [("j", 8)]) rfl nd (di_range1 (c.fr "range" (by decide)) (da_cons (dv_lenB 4 (c.fr "len" (by decide))) da_nil)) (blkOk_by (N := N_law) (sc := defScope (top 27)) (by decide +kernel)) (fun _ _ _ _ _ => (dg_name 8 nd)) (fun _ _ _ _ _ => dts_nil) (fun _ _ _ _ _ => (q_fz (q_cmp (op_eqDd (room_hu hr)) (dv_var 8) (dv_var 5))))))) (dss_one (ds_ret (q_v dv_bl))) dss_nil))))) (dss_one (ds_if (q_tcmp (op_neDd (room_hu hr)) (q_fz (de_lst (da_cons (dv_attr c.at_ (q_ixB 4 dv_int)) (da_cons (dv_attr c.at_ (q_ixB 4 dv_int)) (da_cons (dv_attr c.at_ (q_ixB 4 dv_int)) da_nil))))) (q_fz (q_op op_mulD (q_fz (de_lst (da_cons (dv_var 3) da_nil))) dv_int))) (dss_one (ds_ret (q_v dv_bl))) dss_nil))))))) (dss_cons (ds_set 7 (q_v (dv_exc (c.ex "ScanError" (by decide)) (c.gl "ScanError" (by decide)) dv_str)) nd) (dss_one (ds_ret (q_v (dv_and (q_fz (q_cmp op_isD (dv_attr c.at_ (q_oex (x_ "InvalidText" "index" (by decide)) (hr.mono (by decide)) (da_cons dv_non da_nil))) dv_non)) (dv_and (q_fz (q_cmp op_notInD dv_bl (q_fz (q_fun h__law_classes (hr.mono (by decide)) tk (da_cons (dv_var 7) da_nil))))) (dv_one (q_fz (de_callB (cl_isi c.is) (c.fr "isinstance" (by decide)) (by decide +kernel) (da_cons (dv_var 7) (da_cons (q_ty (c.fr "ValueError" (by decide)) (by decide +kernel)) da_nil)))))))))))))
theorem ini_InvalidText {P : Program} {w : World} {K : Fg} {mg : Str → Option Value} {base : Heap} (c : Kc K mg) (Fn : ∃ fd, FunD K "__init__" "InvalidText.__init__" (defArgs (inCls (top 2) 0)) (defBody (inCls (top 2) 0)) (defScope (inCls (top 2) 0)) [] [] (He.ma K (He.ga K "InvalidText") "__init__") fd) : OexI P w K mg base 1 "InvalidText" "index" :=
  oex_of (k := 0) (self := "self") (y := "index") Fn (c.gl "InvalidText" (by decide)) ⟨rfl, rfl, rfl, by decide +kernel, rfl, by decide +kernel, by decide +kernel⟩ (c.ox ("InvalidText", "index") (by decide)) rfl (fun _ _ _ _ _ _ us hl => match us, hl with | [_, _], _ => rfl) (fun env he => by obtain ⟨⟩ := env; subst he; rfl)
theorem ini_TooLarge {P : Program} {w : World} {K : Fg} {mg : Str → Option Value} {base : Heap} (c : Kc K mg) (Fn : ∃ fd, FunD K "__init__" "TooLarge.__init__" (defArgs (inCls (top 3) 0)) (defBody (inCls (top 3) 0)) (defScope (inCls (top 3) 0)) [] [] (He.ma K (He.ga K "TooLarge") "__init__") fd) : OexI P w K mg base 1 "TooLarge" "limit" :=
  oex_of (k := 0) (self := "self") (y := "limit") Fn (c.gl "TooLarge" (by decide)) ⟨rfl, rfl, rfl, by decide +kernel, rfl, by decide +kernel, by decide +kernel⟩ (c.ox ("TooLarge", "limit") (by decide)) rfl (fun _ _ _ _ _ _ us hl => match us, hl with | [_, _], _ => rfl) (fun env he => by obtain ⟨⟩ := env; subst he; rfl)
theorem ini_TooManyMisses {P : Program} {w : World} {K : Fg} {mg : Str → Option Value} {base : Heap} (c : Kc K mg) (Fn : ∃ fd, FunD K "__init__" "TooManyMisses.__init__" (defArgs (inCls (top 4) 0)) (defBody (inCls (top 4) 0)) (defScope (inCls (top 4) 0)) [] [] (He.ma K (He.ga K "TooManyMisses") "__init__") fd) : OexI P w K mg base 1 "TooManyMisses" "total" :=
  oex_of (k := 0) (self := "self") (y := "total") Fn (c.gl "TooManyMisses" (by decide)) ⟨rfl, rfl, rfl, by decide +kernel, rfl, by decide +kernel, by decide +kernel⟩ (c.ox ("TooManyMisses", "total") (by decide)) rfl (fun _ _ _ _ _ _ us hl => match us, hl with | [_, _], _ => rfl) (fun env he => by obtain ⟨⟩ := env; subst he; rfl)
end DLaw

set_option Elab.async false
set_option linter.all false
set_option maxRecDepth 100000
set_option maxHeartbeats 4000017
namespace DLaw
open PySem DL
theorem p_bag (c : Int) : g__law_bag [.val (.int c)] = .ret (.own false (.lst [.int (if c - 1000000000000000000 > 0 then c - 1000000000000000000 else 0), .int c, .int 0])) [.no] := by rfl
theorem log2_lt {i : Int} (h1 : -18446744073709551616 < i) (h2 : i < 18446744073709551616) : i.natAbs.log2 < 64 := by
  by_cases z : i.natAbs = 0
  · rw [z]; decide
  · exact (Nat.log2_lt z).mpr (by omega)
theorem mulD_ok {i j : Int} (h1 : -18446744073709551616 < i) (h2 : i < 18446744073709551616) (h3 : -18446744073709551616 < j) (h4 : j < 18446744073709551616) : mulD (.int i) (.int j) = some (.val (.int (i * j))) := by
  have a := log2_lt h1 h2
  have b := log2_lt h3 h4
  show (if i.natAbs.log2 + j.natAbs.log2 < 1000000 then some (Slot.val (.int (i * j))) else none) = _
  rw [if_pos (by omega)]
theorem p_pick (a b t m : Int) (hm : 0 < m) (hl : m.natAbs.log2 < 9000) (ht : 0 ≤ t) (ht2 : t < 1000) : ∃ r a' , g__law_pick [.own false (.lst [.int a, .int b, .int t]), .val (.int m)] = .ret (.val (.int r)) [.own false (.lst [.int a', .int b, .int (t + 1)]), .no] := by
  by_cases h : 0 < a
  · refine ⟨a % m, a / m, ?_⟩
    simp [g__law_pick, s__law_pick, runF, sSeq, sPut, DL.putAt, hasOwn, eIxB, peek, eC, eF, fz, eOp, opt, addD, gtD, cmpI, DL.tCmp, asBE, sIf, sSet, put, eCall, datas, DL.intD, aCons, aNil, eVar, modD, fdivD, mulD, two, put2, sRet, eV, vl, fin, outs, enter, Oc.bind, getD, L2.atI, L2.ixN, h, hm, hl]
  · have m1 := mulD_ok (i := b % 2147483629) (j := 48271) (by omega) (by omega) (by omega) (by omega)
    have m2 := mulD_ok (i := t + 1) (j := 69621) (by omega) (by omega) (by omega) (by omega)
    have m3 := mulD_ok (i := (b % 2147483629 * 48271 + (t + 1) * 69621 + 12345) % 2147483647) (j := (b % 2147483629 * 48271 + (t + 1) * 69621 + 12345) % 2147483647) (by omega) (by omega) (by omega) (by omega)
    have m4 := mulD_ok (i := t + 1) (j := 40692) (by omega) (by omega) (by omega) (by omega)
    have m5 := mulD_ok (i := (b % 2147483629 * 48271 + (t + 1) * 69621 + 12345) % 2147483647) (j := 2147483587) (by omega) (by omega) (by omega) (by omega)
    refine ⟨(((b % 2147483629 * 48271 + (t + 1) * 69621 + 12345) % 2147483647) * 2147483587 + (((b % 2147483629 * 48271 + (t + 1) * 69621 + 12345) % 2147483647) * ((b % 2147483629 * 48271 + (t + 1) * 69621 + 12345) % 2147483647) + (t + 1) * 40692) % 2147483587) / 32 % m, a, ?_⟩
    simp [g__law_pick, s__law_pick, runF, sSeq, sPut, DL.putAt, hasOwn, eIxB, peek, eC, eF, fz, eOp, opt, addD, gtD, cmpI, DL.tCmp, asBE, sIf, sNext, sSet, put, eCall, datas, DL.intD, aCons, aNil, eVar, modD, fdivD, m1, m2, m3, m4, m5, two, put2, sRet, eV, vl, fin, outs, enter, Oc.bind, getD, L2.atI, L2.ixN, h, hm, hl, show Nat.log2 32 < 9000 from by decide]
def madeL (n : Int) : List D := [.exc "InvalidText" [("index", .int n)], .exc "TooLarge" [("limit", .int n)], .exc "TooManyMisses" [("total", .int n)]] ++ (errs.drop 3).map fun c => .exc c []
theorem p_made (n : Int) : g__law_made [.val (.int n)] = .ret (.own false (.lst (madeL n))) [.no] := by rfl
theorem p_inner (s0 s1 s2 s3 : Slot) (x5 x6 : Slot) (h5 : x5 = .no ∨ ∃ d, x5 = .val d) (h6 : x6 = .no ∨ ∃ d, x6 = .val d) (n : Int) : loop (gTup 2 (gCons (putV 5) (gCons (putV 6) gNil))) s_law_1 (enums (madeL n)) [s0, s1, s2, s3, .val (.lst (madeL n)), x5, x6, .no, .no] = .ok .nx [s0, s1, s2, s3, .val (.lst (madeL n)), .val (.int 19), .val (.exc "InvalidCommand" []), .no, .no] := by
  rcases h5 with rfl | ⟨d5, rfl⟩ <;> rcases h6 with rfl | ⟨d6, rfl⟩ <;> kernel_rfl
theorem eqv_rep (n : Int) : neD (.lst [.int n, .int n, .int n]) (.lst [.int n, .int n, .int n]) = some (.val (.bl false)) := by
  have e : eqvD (.lst [.int n, .int n, .int n]) (.lst [.int n, .int n, .int n]) = some (PyData.eqv (.list [.int n, .int n, .int n]) (.list [.int n, .int n, .int n])) := rfl
  have e2 : PyData.eqv (.list [.int n, .int n, .int n]) (.list [.int n, .int n, .int n]) = true := by simp [PyData.eqv, PyData.eqvAll]
  show blS ((eqvD (.lst [.int n, .int n, .int n]) (.lst [.int n, .int n, .int n])).map not) = _
  rw [e, e2]
  rfl
def Nv (x : Slot) : Prop := x = .no ∨ ∃ d, x = .val d
theorem p_turn (ns : List Int) (a b t k : Int) (x3 x4 x5 x6 : Slot) (h3 : Nv x3) (h4 : Nv x4) (h5 : Nv x5) (h6 : Nv x6) (ht : 0 ≤ t) (ht2 : t < 1000) (hk : k = 0 ∨ k = 1 ∨ k = 2 ∨ k = 3) :
    ∃ a' n, s_law_0 [.val (.scr ns), .own false (.lst [.int a, .int b, .int t]), .val (.int k), x3, x4, x5, x6, .no, .no] = .ok .nx [.val (.scr ns), .own false (.lst [.int a', .int b, .int (t + 1)]), .val (.int k), .val (.int n), .val (.lst (madeL n)), .val (.int 19), .val (.exc "InvalidCommand" []), .no, .no] := by
  have hm : (0 : Int) < (if k % 2 = 0 then 9 else 10 ^ 60) ∧ (if k % 2 = 0 then (9 : Int) else 10 ^ 60).natAbs.log2 < 9000 := by
    split <;> decide +kernel
  obtain ⟨r, a', hp⟩ := p_pick a b t (if k % 2 = 0 then 9 else 10 ^ 60) hm.1 hm.2 ht ht2
  refine ⟨a', r, ?_⟩
  have e1 : sSet 3 (eFn 2 g__law_pick (aOwn 1 (aCons (eIx (eF (eLst (aCons (eC (.int 9)) (aCons (eF (eOp powD (eC (.int 10)) (eC (.int 60)))) aNil)))) (eF (eOp modD (eVar 2) (eC (.int 2))))) aNil))) [.val (.scr ns), .own false (.lst [.int a, .int b, .int t]), .val (.int k), x3, x4, x5, x6, .no, .no]
      = .ok .nx [.val (.scr ns), .own false (.lst [.int a', .int b, .int (t + 1)]), .val (.int k), .val (.int r), x4, x5, x6, .no, .no] := by
    rcases hk with rfl | rfl | rfl | rfl <;> simp at hp <;> rcases h3 with rfl | ⟨d3, rfl⟩ <;>
      simp [sSet, eFn, aOwn, aCons, aNil, eIx, eF, fz, eLst, eC, eOp, powD, opt, modD, eVar, datas, Oc.bind, getD, L2.atI, L2.ixN, callF, owned, resolve, back, hp, put, PySem.sizeLine_eq]
  have e2 : sSet 4 (eFn 1 g__law_made (aCons (eVar 3) aNil)) [.val (.scr ns), .own false (.lst [.int a', .int b, .int (t + 1)]), .val (.int k), .val (.int r), x4, x5, x6, .no, .no]
      = .ok .nx [.val (.scr ns), .own false (.lst [.int a', .int b, .int (t + 1)]), .val (.int k), .val (.int r), .own false (.lst (madeL r)), x5, x6, .no, .no] := by
    rcases h4 with rfl | ⟨d4, rfl⟩ <;> simp [sSet, eFn, aCons, aNil, eVar, Oc.bind, callF, owned, resolve, back, p_made, put]
  have e3 : sFor (iEnum (aCons (eVar 4) aNil)) (gTup 2 (gCons (putV 5) (gCons (putV 6) gNil))) s_law_1 [.val (.scr ns), .own false (.lst [.int a', .int b, .int (t + 1)]), .val (.int k), .val (.int r), .own false (.lst (madeL r)), x5, x6, .no, .no]
      = .ok .nx [.val (.scr ns), .own false (.lst [.int a', .int b, .int (t + 1)]), .val (.int k), .val (.int r), .val (.lst (madeL r)), .val (.int 19), .val (.exc "InvalidCommand" []), .no, .no] :=
    p_inner _ _ _ _ _ _ h5 h6 r
  have e4 : (sIf (tCmp neD (eF (eLst (aCons (eAttr attrs "index" (eIxB 4 (eC (.int 0)))) (aCons (eAttr attrs "limit" (eIxB 4 (eC (.int 1)))) (aCons (eAttr attrs "total" (eIxB 4 (eC (.int 2)))) aNil))))) (eF (eOp mulD (eF (eLst (aCons (eVar 3) aNil))) (eC (.int 3))))) (sRet (eV (eC (.bl false)))) sNext) [.val (.scr ns), .own false (.lst [.int a', .int b, .int (t + 1)]), .val (.int k), .val (.int r), .val (.lst (madeL r)), .val (.int 19), .val (.exc "InvalidCommand" []), .no, .no]
      = .ok .nx [.val (.scr ns), .own false (.lst [.int a', .int b, .int (t + 1)]), .val (.int k), .val (.int r), .val (.lst (madeL r)), .val (.int 19), .val (.exc "InvalidCommand" []), .no, .no] := by
    show Oc.bind (asBE (opt (neD (.lst [.int r, .int r, .int r]) (.lst [.int r, .int r, .int r])) [.val (.scr ns), .own false (.lst [.int a', .int b, .int (t + 1)]), .val (.int k), .val (.int r), .val (.lst (madeL r)), .val (.int 19), .val (.exc "InvalidCommand" []), .no, .no])) _ = _
    rw [eqv_rep]
    rfl
  show sSeq _ (sSeq _ (sSeq _ _)) _ = _
  unfold sSeq
  rw [e1]
  show Oc.bind (sSet 4 _ _) _ = _
  rw [e2]
  show Oc.bind (sFor _ _ _ _) _ = _
  rw [e3]
  exact e4
theorem p_loop (ns : List Int) (a b : Int) : ∃ ρ4, sFor (iRng1 (aCons (eC (.int 4)) aNil)) (putV 2) s_law_0 [.val (.scr ns), .own false (.lst [.int a, .int b, .int 0]), .no, .no, .no, .no, .no, .no, .no] = .ok .nx ρ4 ∧
    ∃ a' n, ρ4 = [.val (.scr ns), .own false (.lst [.int a', .int b, .int 4]), .val (.int 3), .val (.int n), .val (.lst (madeL n)), .val (.int 19), .val (.exc "InvalidCommand" []), .no, .no] := by
  have no : Nv .no := .inl rfl
  have va : ∀ d, Nv (.val d) := fun d => .inr ⟨d, rfl⟩
  obtain ⟨a1, n1, q1⟩ := p_turn ns a b 0 0 .no .no .no .no no no no no (by decide) (by decide) (by decide)
  obtain ⟨a2, n2, q2⟩ := p_turn ns a1 b 1 1 (.val (.int n1)) (.val (.lst (madeL n1))) (.val (.int 19)) (.val (.exc "InvalidCommand" [])) (va _) (va _) (va _) (va _) (by decide) (by decide) (by decide)
  obtain ⟨a3, n3, q3⟩ := p_turn ns a2 b 2 2 (.val (.int n2)) (.val (.lst (madeL n2))) (.val (.int 19)) (.val (.exc "InvalidCommand" [])) (va _) (va _) (va _) (va _) (by decide) (by decide) (by decide)
  obtain ⟨a4, n4, q4⟩ := p_turn ns a3 b 3 3 (.val (.int n3)) (.val (.lst (madeL n3))) (.val (.int 19)) (.val (.exc "InvalidCommand" [])) (va _) (va _) (va _) (va _) (by decide) (by decide) (by decide)
  refine ⟨_, ?_, a4, n4, rfl⟩
  have u : ∀ (d : D) (ds : List D) (ρ ρ1 ρ2 : En), putV 2 d ρ = some ρ1 → s_law_0 ρ1 = .ok .nx ρ2 → loop (putV 2) s_law_0 (d :: ds) ρ = loop (putV 2) s_law_0 ds ρ2 := fun d ds ρ ρ1 ρ2 h1 h2 => by
    rw [loop]
    simp only [h1, h2]
  have e0 : ∀ ρ, sFor (iRng1 (aCons (eC (.int 4)) aNil)) (putV 2) s_law_0 ρ = loop (putV 2) s_law_0 [.int 0, .int 1, .int 2, .int 3] ρ := fun ρ => by kernel_rfl
  rw [e0]
  rw [u _ _ _ _ _ rfl q1, u _ _ _ _ _ rfl q2, u _ _ _ _ _ rfl q3, u _ _ _ _ _ rfl q4]
  rfl
theorem p_cell (ns : List Int) (h : ns.length ≤ 63) : ∃ c, sSet 1 (eFn 1 g__law_bag (aCons (eIx (eF (eOp addD (eVar 0) (eF (eLst (aCons (eC (.int 0)) aNil))))) (eC (.int 0))) aNil)) [.val (.scr ns), .no, .no, .no, .no, .no, .no, .no, .no]
    = .ok .nx [.val (.scr ns), .own false (.lst [.int (if c - 1000000000000000000 > 0 then c - 1000000000000000000 else 0), .int c, .int 0]), .no, .no, .no, .no, .no, .no, .no] := by
  cases ns with
  | nil => exact ⟨0, rfl⟩
  | cons n r =>
    refine ⟨n, ?_⟩
    have hz : r.length ≤ 16777214 := by simp at h; omega
    have h0 : (0 : Int) < (r.length : Int) + 1 + 1 := by omega
    simp [sSet, eFn, aCons, aNil, eIx, eF, fz, eLst, eC, eOp, addD, opt, eVar, datas, Oc.bind, getD, L2.atI, L2.ixN, callF, owned, resolve, back, p_bag, put, hz, h0, sizeLine_eq]
theorem plain (ns : List Int) (h : ns.length ≤ 63) (_ : ∀ z ∈ ns, Builtin.Int.intBits z ≤ 1048576) : ∃ os, g_law [.val (.scr ns)] = .ret (.val (.bl true)) os := by
  obtain ⟨c, e1⟩ := p_cell ns h
  obtain ⟨ρ4, e2, a', n, e3⟩ := p_loop ns (if c - 1000000000000000000 > 0 then c - 1000000000000000000 else 0) c
  subst e3
  refine ⟨[.no], ?_⟩
  show fin [.val (.scr ns)] (s_law [.val (.scr ns), .no, .no, .no, .no, .no, .no, .no, .no]) = _
  unfold s_law
  show fin _ (Oc.bind (sSet 1 _ _) _) = _
  rw [e1]
  show fin _ (Oc.bind (sFor _ _ _ _) _) = _
  rw [e2]
  kernel_rfl
end DLaw

set_option Elab.async false
set_option linter.all false
set_option maxRecDepth 100000
set_option maxHeartbeats 0
namespace DLaw
open L2 PyProof.Rows PySem PySem.Spec DL

def d__law_classes : He.DefD := ⟨("_law_classes", none), "_law_classes", "_law_classes", defArgs (top 26), defBody (top 26), defScope (top 26), [], []⟩
def d__law_made : He.DefD := ⟨("_law_made", none), "_law_made", "_law_made", defArgs (top 25), defBody (top 25), defScope (top 25), [], []⟩
def d__law_pick : He.DefD := ⟨("_law_pick", none), "_law_pick", "_law_pick", defArgs (top 24), defBody (top 24), defScope (top 24), [], []⟩
def d__law_bag : He.DefD := ⟨("_law_bag", none), "_law_bag", "_law_bag", defArgs (top 23), defBody (top 23), defScope (top 23), [], []⟩
def d_law : He.DefD := ⟨("law", none), "law", "law", defArgs (top 27), defBody (top 27), defScope (top 27), [], []⟩
def di_InvalidText : He.DefD := ⟨("InvalidText", some "__init__"), "__init__", "InvalidText.__init__", defArgs (inCls (top 2) 0), defBody (inCls (top 2) 0), defScope (inCls (top 2) 0), [], []⟩
def di_TooLarge : He.DefD := ⟨("TooLarge", some "__init__"), "__init__", "TooLarge.__init__", defArgs (inCls (top 3) 0), defBody (inCls (top 3) 0), defScope (inCls (top 3) 0), [], []⟩
def di_TooManyMisses : He.DefD := ⟨("TooManyMisses", some "__init__"), "__init__", "TooManyMisses.__init__", defArgs (inCls (top 4) 0), defBody (inCls (top 4) 0), defScope (inCls (top 4) 0), [], []⟩
def fns : List He.DefD := [d__law_classes, d__law_made, d__law_pick, d__law_bag, d_law, di_InvalidText, di_TooLarge, di_TooManyMisses]
def fas : List He.Fa := glos.map He.Fa.glo ++ (frees.map He.Fa.free ++ excs.map He.Fa.exc)
def exb (K : Fg) : Bool := ktB K kt && (attrs.all (atB K) && oxs.all fun p => oexFB K p.1 p.2)
abbrev R : PySem.W.OpenRow := PySem.W.OpenLaw.row PySem.Challenge.rw_scanmisses_k63_errors_made
abbrev hk : PySem.W.Hook := hookX 5 fas fns exb
def ob (s : PySem.W.SharedT) : He.AlD := obsXG 5 fas fns exb (HandSHeadRun.getT s)
theorem ob_eq (s : PySem.W.SharedT) : ob s = hk.obs s.abs := obsXG_eq (HandSHeadRun.getT_eq s)
def names0 : List PySem.Str := ["ScanError", "InvalidText", "TooLarge", "TooManyMisses", "InvalidProgram", "InvalidScan", "InvalidList", "InvalidAddress", "InvalidSize", "InvalidNumber", "InvalidIndex", "InvalidProfile", "InvalidSummary", "InvalidSizes", "InvalidScans", "InvalidPrograms", "InvalidPoints", "InvalidInterval", "InvalidOperation", "Nothing", "InvalidCommand", "_law_bag", "_law_pick", "_law_made", "_law_classes"]
def names : List PySem.Str := names0
theorem run (w : World) : HandSHeadRun.RunEq R (PySem.W.view R.prog [27]) hk ob 20000 names w := by
  intro os
  kernel_rfl
theorem kn {K : Fg} {h : Heap} {mg : Str → Option Value} (X : K.In h) (G : h.Ns mainGlobals mg) (c : SaysX fas fns exb K) : Kc K mg := by
  obtain ⟨c1, c2⟩ := c.both
  have c0 := (He.ba (show ((fas.all fun f => f.ok K) && fns.all fun d => d.ok K) = true from congrArg (fun z : He.AlD => z.1) c1)).1
  have fact : ∀ f ∈ fas, f.ok K = true := fun f hf => List.all_eq_true.mp c0 f hf
  obtain ⟨e1, e⟩ := He.ba c2
  obtain ⟨e2, e3⟩ := He.ba e
  refine ⟨fun x hx => ?_, fun x hx => ?_, e1, e2, fun p hp => List.all_eq_true.mp e3 p hp, fun C hC => ?_⟩
  · exact He.free_ok X G (fact _ (List.mem_append_right _ (List.mem_append_left _ (List.mem_map_of_mem hx))))
  · exact He.glo_ok X G (fact _ (List.mem_append_left _ (List.mem_map_of_mem hx)))
  · exact fact _ (List.mem_append_right _ (List.mem_append_right _ (List.mem_map_of_mem hC)))
theorem facts {P : Program} {w : World} {K : Fg} {h : Heap} {mg : Str → Option Value} {f : Addr} (X : K.In h) (G : h.Ns mainGlobals mg) (hfa : mg ("law" : Str) = some (.ref f)) (c : SaysX fas fns exb K) :
    ∃ fd : FuncData, (∀ (s : Shared) (v : Value), BindsTo s fd ⟨[v], []⟩ [("script", v)]) ∧ ∀ base : Heap, FnOk P w K mg base (L2.CX P w) 4 f fd ["script"] (spD K 1 g_law) := by
  have kc := kn X G c
  obtain ⟨c1, c2⟩ := c.both
  have F__law_classes : FnP K "_law_classes" (top 26) := c1.def_ 0 (d := d__law_classes) rfl
  have F__law_made : FnP K "_law_made" (top 25) := c1.def_ 1 (d := d__law_made) rfl
  have F__law_pick : FnP K "_law_pick" (top 24) := c1.def_ 2 (d := d__law_pick) rfl
  have F__law_bag : FnP K "_law_bag" (top 23) := c1.def_ 3 (d := d__law_bag) rfl
  have F_law : FnP K "law" (top 27) := c1.def_ 4 (d := d_law) rfl
  have I_InvalidText := c1.def_ 5 (d := di_InvalidText) rfl
  have I_TooLarge := c1.def_ 6 (d := di_TooLarge) rfl
  have I_TooManyMisses := c1.def_ 7 (d := di_TooManyMisses) rfl
  have e := hfa.symm.trans (kc.gl "law" (by decide))
  cases e
  obtain ⟨fd, F⟩ := F_law
  have b := FunD.bindsA (ps := ["script"]) F fun _ _ _ _ _ _ us hl => match us, hl with | [_], _ => rfl
  refine ⟨fd, fun s v => b s [v] rfl, fun base => ?_⟩
  have xx : Ox P w K mg base := by
    intro C f hC
    have go : ∀ p ∈ oxs, OexI P w K mg base 1 p.1 p.2 := by
      intro p hp
      unfold oxs at hp
      simp only [List.mem_cons, List.not_mem_nil, or_false] at hp
      rcases hp with rfl | rfl | rfl
      · exact ini_InvalidText kc I_InvalidText
      · exact ini_TooLarge kc I_TooLarge
      · exact ini_TooManyMisses kc I_TooManyMisses
    exact go (C, f) hC
  have h__law_classes := ok__law_classes (P := P) (w := w) (base := base) kc xx  F__law_classes
  have h__law_made := ok__law_made (P := P) (w := w) (base := base) kc xx  F__law_made
  have h__law_pick := ok__law_pick (P := P) (w := w) (base := base) kc xx  F__law_pick
  have h__law_bag := ok__law_bag (P := P) (w := w) (base := base) kc xx  F__law_bag
  exact ok_law_fn (P := P) (w := w) (base := base) kc xx h__law_classes h__law_made h__law_pick h__law_bag F
end DLaw
open PyProof.Rows PySem.Calls PySem.W PySem
theorem PySem.Challenge.cw_scanmisses_k63_errors_made_holds : PySem.Challenge.rw_scanmisses_k63_errors_made.Holds := by
  w_on; o_law
  refine HandSHeadRun.head_any (r := DLaw.R) (q := view DLaw.R.prog [27]) (H := DLaw.hk) (ob := DLaw.ob) (M := 20000) (loose := DLaw.names) (d := HandSHeadRun.topDef DLaw.R.prog 27) (kwd := []) DLaw.ob_eq
    (by kernel_rfl) (fun s => by kernel_rfl) DLaw.run (by kernel_rfl) (by kernel_rfl) (by kernel_rfl) (by rfl) (by first | assumption | decide +kernel) (by decide +kernel) ⟨rfl, rfl, rfl, rfl, rfl, by decide +kernel⟩ ?hw ?hc
  case hw => w_witness2
  case hc =>
    refine DL.law_walk (l := PySem.Challenge.rw_scanmisses_k63_errors_made) (n := 63) (k := 4) (x := "script") (g := DLaw.g_law) rfl (by decide) (by kernel_rfl) ⟨rfl, by decide, by decide⟩ DLaw.plain ?F
    intro w mg fa h Y G hmg0
    obtain ⟨K, KX, c⟩ := Y
    have hmg : mg ("law" : PySem.Str) = some (.ref fa) := by
      have e : (HandSHeadRun.topDef DLaw.R.prog 27).name = ("law" : PySem.Str) := by kernel_rfl
      rw [← e]
      exact hmg0
    obtain ⟨fd, hb, hF⟩ := DLaw.facts (P := (PySem.Challenge.rw_scanmisses_k63_errors_made).prog) (w := w) KX G hmg c
    exact ⟨K, fd, KX, hb, fun base _ _ => hF base⟩


