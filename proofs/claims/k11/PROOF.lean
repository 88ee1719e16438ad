import PyProof.Rows.All
import HandS.ForMost
import HandS.ForExc
import HandS.Deep
import HandS.Walk
import HandS.Wide
import HandS.IsInst
import HandS.TupAny
import HandS.TupLe
import HandS.Text
import HandS.Style
import HandS.Zip
import HandS.SetFor
import HandS.Strs
import HandS.SortInts
import HandS.Conv
import HandS.SetBool
import HandS.Comp
import KE.SortData
import KE.DataMinMax
import KE.KTupSum
import HandS.Defaults
import HandS.HeadEnd
import HandS.HeadHook1
import HandS.HeadHook2
import HandS.Head0
import HandS.Head1
import HandS.Head2
import PySem.Challenge.RW_tierpay_k11_best_and_worst_splits
set_option Elab.async false
set_option linter.all false
set_option maxRecDepth 100000
set_option maxHeartbeats 0
/-! Tp1: data over an abstract heap, environments of slots, what an evaluation's outcome promises. -/
namespace Tp
open PySem PySem.Spec PyProof.Rows L2
abbrev D := PyData
abbrev Fg := PySem.W.Frag
/-- G is a part of H -/
def LeG (G H : Hp) : Prop := ∀ a o, G a = some o → H a = some o
theorem LeG.refl {G : Hp} : LeG G G := fun _ _ h => h
theorem LeG.trans {A B C : Hp} (h : LeG A B) (k : LeG B C) : LeG A C := fun a o q => k a o (h a o q)
theorem Rd.le {G H : Hp} (h : LeG G H) {a : Addr} {u : HO} (r : Rd G a u) : Rd H a u := by
  rcases r with r | ⟨o, r⟩
  · exact .inl (h _ _ r)
  · exact .inr ⟨o, h _ _ r⟩
theorem SqL.le {K : Fg} {G H : Hp} (h : LeG G H) {a : Addr} {xs : List V} (r : SqL K G a xs) : SqL K H a xs := by
  rcases r with r | r
  · exact .inl (Rd.le h r)
  · exact .inr r
theorem SqT.le {K : Fg} {G H : Hp} (h : LeG G H) {a : Addr} {xs : List V} (r : SqT K G a xs) : SqT K H a xs := by
  rcases r with r | r
  · exact .inl (Rd.le h r)
  · exact .inr r
/-- a list, in the heap or the text's own, nothing else in its object -/
def LsK (K : Fg) (H : Hp) (a : Addr) (xs : List V) : Prop := Rd H a (.lst xs) ∨ ∃ (its : List Value) (n : Nat), K.lookup a = some { cls := .type "list", data := .seq its.toArray n } ∧ xs.length ≤ sizeLine ∧ Vals xs its
theorem LsK.sq {K : Fg} {H : Hp} {a : Addr} {xs : List V} (h : LsK K H a xs) : SqL K H a xs := by
  rcases h with h | ⟨its, n, e, z, r⟩
  · exact .inl h
  · exact .inr ⟨_, its.toArray, n, e, rfl, rfl, rfl, by rw [List.size_toArray, ← r.length]; exact z, r⟩
theorem LsK.le {K : Fg} {G H : Hp} (h : LeG G H) {a : Addr} {xs : List V} (r : LsK K G a xs) : LsK K H a xs := by
  rcases r with r | r
  · exact .inl (Rd.le h r)
  · exact .inr r
/-- a key as data -/
def keyD : Key → D
  | .inl i => .int i
  | .inr x => .str x
/-- an instance as data: the mark, the number of its class, its attributes -/
def instD (c : Int) (fs : List (Str × D)) : D := .dict ((.none, .int c) :: fs.map fun p => (.str p.1, p.2))
mutual
/-- the value stands for the data, by the part G of the heap -/
inductive RD (K : Fg) (G : Hp) : D → V → Prop
  | non : RD K G .none .non
  | bl (b : Bool) : RD K G (.bool b) (.bl b)
  | int (i : Int) : RD K G (.int i) (.int i)
  | str (x : Str) : RD K G (.str x) (.str x)
  | lst {a : Addr} {xs : List V} {ds : List D} : LsK K G a xs → RDs K G ds xs → RD K G (.list ds) (.ref a)
  | tup {a : Addr} {xs : List V} {ds : List D} : SqT K G a xs → RDs K G ds xs → RD K G (.tuple ds) (.ref a)
  | dK {a : Addr} {ks : List Key} {xs : List V} {ds : List D} : Rd G a (.dK (ks.zip xs)) → ks.length = xs.length → RDs K G ds xs → RD K G (.dict ((ks.map keyD).zip ds)) (.ref a)
  | dT {a : Addr} {ks : List (List Key)} {xs : List V} {ds : List D} : Rd G a (.dT (ks.zip xs)) → ks.length = xs.length → RDs K G ds xs → RD K G (.dict ((ks.map fun k => PyData.tuple (k.map keyD)).zip ds)) (.ref a)
  | ins {a C dx : Addr} {ns : List Str} {xs : List V} {ds : List D} {c : Int} : G a = some (.ins C dx (ns.zip xs)) → ns.length = xs.length → RDs K G ds xs → (C : Int) = c → RD K G (instD c (ns.zip ds)) (.ref a)
inductive RDs (K : Fg) (G : Hp) : List D → List V → Prop
  | nil : RDs K G [] []
  | cons {d : D} {v : V} {ds : List D} {vs : List V} : RD K G d v → RDs K G ds vs → RDs K G (d :: ds) (v :: vs)
end
mutual
theorem RD.le {K : Fg} {G H : Hp} (h : LeG G H) : ∀ {d : D} {v : V}, RD K G d v → RD K H d v
  | _, _, .non => .non
  | _, _, .bl b => .bl b
  | _, _, .int i => .int i
  | _, _, .str x => .str x
  | _, _, .lst s r => .lst (LsK.le h s) (RDs.le h r)
  | _, _, .tup s r => .tup (SqT.le h s) (RDs.le h r)
  | _, _, .dK s n r => .dK (Rd.le h s) n (RDs.le h r)
  | _, _, .dT s n r => .dT (Rd.le h s) n (RDs.le h r)
  | _, _, .ins s n r c => .ins (h _ _ s) n (RDs.le h r) c
theorem RDs.le {K : Fg} {G H : Hp} (h : LeG G H) : ∀ {ds : List D} {vs : List V}, RDs K G ds vs → RDs K H ds vs
  | _, _, .nil => .nil
  | _, _, .cons a b => .cons (RD.le h a) (RDs.le h b)
end
theorem RDs.length {K : Fg} {G : Hp} : ∀ {ds : List D} {vs : List V}, RDs K G ds vs → ds.length = vs.length
  | _, _, .nil => rfl
  | _, _, .cons _ b => congrArg (· + 1) (RDs.length b)
theorem RDs.app {K : Fg} {G : Hp} : ∀ {ds es : List D} {vs us : List V}, RDs K G ds vs → RDs K G es us → RDs K G (ds ++ es) (vs ++ us)
  | _, _, _, _, .nil, s => s
  | _, _, _, _, .cons a b, s => .cons a (RDs.app b s)
theorem RDs.get {K : Fg} {G : Hp} : ∀ {ds : List D} {vs : List V} {i : Nat} {d : D}, RDs K G ds vs → ds[i]? = some d → ∃ v, vs[i]? = some v ∧ RD K G d v
  | _, _, 0, _, .cons a _, e => by
    simp only [List.getElem?_cons_zero, Option.some.injEq] at e
    subst e
    exact ⟨_, rfl, a⟩
  | _, _, i + 1, _, .cons _ b, e => by
    obtain ⟨v, h1, h2⟩ := RDs.get (i := i) b (by simpa using e)
    exact ⟨v, by simpa using h1, h2⟩
theorem RDs.getV {K : Fg} {G : Hp} : ∀ {ds : List D} {vs : List V} {i : Nat} {v : V}, RDs K G ds vs → vs[i]? = some v → ∃ d, ds[i]? = some d ∧ RD K G d v
  | _, _, 0, _, .cons a _, e => by
    simp only [List.getElem?_cons_zero, Option.some.injEq] at e
    subst e
    exact ⟨_, rfl, a⟩
  | _, _, i + 1, _, .cons _ b, e => by
    obtain ⟨v, h1, h2⟩ := RDs.getV (i := i) b (by simpa using e)
    exact ⟨v, by simpa using h1, h2⟩
theorem RDs.take {K : Fg} {G : Hp} : ∀ {ds : List D} {vs : List V} (n : Nat), RDs K G ds vs → RDs K G (ds.take n) (vs.take n)
  | _, _, 0, _ => .nil
  | _, _, _ + 1, .nil => .nil
  | _, _, n + 1, .cons a b => .cons a (RDs.take n b)
theorem RDs.drop {K : Fg} {G : Hp} : ∀ {ds : List D} {vs : List V} (n : Nat), RDs K G ds vs → RDs K G (ds.drop n) (vs.drop n)
  | _, _, 0, r => r
  | _, _, _ + 1, .nil => .nil
  | _, _, n + 1, .cons _ b => RDs.drop n b
theorem RDs.rev {K : Fg} {G : Hp} : ∀ {ds : List D} {vs : List V}, RDs K G ds vs → RDs K G ds.reverse vs.reverse
  | _, _, .nil => .nil
  | _, _, .cons a b => by
    rw [List.reverse_cons, List.reverse_cons]
    exact RDs.app (RDs.rev b) (.cons a .nil)
theorem RDs.setAt {K : Fg} {G : Hp} {d : D} {v : V} (h : RD K G d v) : ∀ {ds : List D} {vs : List V} (n : Nat), RDs K G ds vs → RDs K G (ds.set n d) (vs.set n v)
  | _, _, _, .nil => .nil
  | _, _, 0, .cons _ b => .cons h b
  | _, _, n + 1, .cons a b => .cons a (RDs.setAt h n b)
/-- a slot: nothing known; a value that stands for data; an object of this frame's own (a list, a dict) that nothing else holds; the same, handed in by the caller -/
inductive Slot where
  | no | val (d : D) | own (d : D) | io (d : D)
abbrev Env := List Slot
inductive Res (α : Type) where
  | ok (a : α) (e : Env)
  | exc (c : Nat) (x : D) (e : Env)
  | stuck
/-- an object that may change: at a, not in G -/
def OwnAt (K : Fg) (G H : Hp) (a : Addr) : D → Prop
  | .list ds => G a = none ∧ ∃ vs, H a = some (.lst vs) ∧ RDs K G ds vs
  | .dict kvs => G a = none ∧ ((∃ (ks : List Key) (vs : List V) (ds : List D), H a = some (.dK (ks.zip vs)) ∧ ks.length = vs.length ∧ RDs K G ds vs ∧ kvs = (ks.map keyD).zip ds) ∨
      ∃ (ks : List (List Key)) (vs : List V) (ds : List D), H a = some (.dT (ks.zip vs)) ∧ ks.length = vs.length ∧ RDs K G ds vs ∧ kvs = (ks.map fun k => PyData.tuple (k.map keyD)).zip ds)
  | _ => False
theorem OwnAt.free {K : Fg} {G H : Hp} {a : Addr} {d : D} (h : OwnAt K G H a d) : G a = none := by
  cases d <;> first | exact h.1 | exact h.elim
theorem OwnAt.there {K : Fg} {G H : Hp} {a : Addr} {d : D} (h : OwnAt K G H a d) : ∃ o, H a = some o := by
  cases d with
  | list ds => obtain ⟨_, vs, h, _⟩ := h; exact ⟨_, h⟩
  | dict kvs => obtain ⟨_, ⟨_, _, _, h, _⟩ | ⟨_, _, _, h, _⟩⟩ := h <;> exact ⟨_, h⟩
  | _ => exact h.elim
theorem OwnAt.mono {K : Fg} {G H G' H' : Hp} {a : Addr} {d : D} (h : OwnAt K G H a d) (le : LeG G G') (hf : G' a = none) (hk : ∀ o, H a = some o → H' a = some o) : OwnAt K G' H' a d := by
  cases d with
  | list ds => obtain ⟨_, vs, h, r⟩ := h; exact ⟨hf, vs, hk _ h, r.le le⟩
  | dict kvs =>
    obtain ⟨_, ⟨ks, vs, ds, h, n, r, e⟩ | ⟨ks, vs, ds, h, n, r, e⟩⟩ := h
    · exact ⟨hf, .inl ⟨ks, vs, ds, hk _ h, n, r.le le, e⟩⟩
    · exact ⟨hf, .inr ⟨ks, vs, ds, hk _ h, n, r.le le, e⟩⟩
  | _ => exact h.elim
/-- what is fixed while a def runs: the entry, the objects handed in to be changed (slot, address), the objects in the making, the wish about exceptions -/
structure Frm where
  H0 : Hp
  G0 : Hp
  ios : List (Nat × Addr)
  R : List (Addr × HO)
  W : WX
abbrev Frm.O (F : Frm) : List Addr := F.ios.map (·.2)
def Slot.mine? : Slot → Option D
  | .own d => some d
  | .io d => some d
  | _ => none
structure SR (K : Fg) (F : Frm) (σ : L2.St) (H : Hp) (e : Env) (G : Hp) : Prop where
  le : LeG G H
  len : e.length = σ.length
  vals : ∀ (i : Nat) (d : D), e[i]? = some (.val d) → ∃ v, σ[i]? = some (some v) ∧ RD K G d v
  owns : ∀ (i : Nat) (d : D), e[i]? = some (.own d) → ∃ a, σ[i]? = some (some (.ref a)) ∧ OwnAt K G H a d ∧ F.H0 a = none ∧ ∀ p ∈ F.R, p.1 ≠ a
  iosl : ∀ (i : Nat) (d : D), e[i]? = some (.io d) → ∃ a, (i, a) ∈ F.ios ∧ OwnAt K G H a d ∧ ∀ p ∈ F.R, p.1 ≠ a
  iosv : ∀ p ∈ F.ios, σ[p.1]? = some (some (.ref p.2)) ∧ ∃ d, e[p.1]? = some (.io d)
  dist : ∀ (i j : Nat) (d d' : D) (a : Addr), i ≠ j → e[i]?.bind Slot.mine? = some d → e[j]?.bind Slot.mine? = some d' → σ[i]? = some (some (.ref a)) → σ[j]? = some (some (.ref a)) → False
  keep : ∀ b o, b ∉ F.O → F.H0 b = some o → H b = some o
  gk : LeG F.G0 G
  fresh : ∀ b o, G b = some o → F.G0 b = some o ∨ F.H0 b = none
  res : ∀ p ∈ F.R, H p.1 = some p.2 ∧ G p.1 = none ∧ F.H0 p.1 = none
/-- an exception of the law's own classes: the class by its number, the attribute -/
structure ExcT where
  /-- where the classes stand -/
  at_ : Nat → Option Addr
  /-- the attribute's name, of the classes that have one -/
  attr : Nat → Option Str
def ExcOk (T : ExcT) (K : Fg) (G H : Hp) (c : Nat) (x : D) (cls : Value) (dd : Option Addr) : Prop :=
  ∃ C, T.at_ c = some C ∧ cls = .ref C ∧
    match T.attr c with
    | none => dd = none
    | some n => ∃ d0 v, dd = some d0 ∧ H d0 = some (.xd [(n, v)]) ∧ RD K G x v
section
variable (T : ExcT) (K : Fg) (F : Frm) (σ : L2.St)
/-- what an outcome promises -/
def Aft {α β : Type} (rel : Hp → α → β → Prop) (G : Hp) (r : Res α) (Q : β → Hp → Prop) : Prop :=
  match r with
  | .ok a e => ∀ v H' G', SR K F σ H' e G' → LeG G G' → rel G' a v → Q v H'
  | .exc c x e => ∀ cls dd H' G', SR K F σ H' e G' → LeG G G' → ExcOk T K G' H' c x cls dd → F.W cls dd σ H'
  | .stuck => False
end
abbrev M (α : Type) := Env → Res α
def M.pure {α : Type} (a : α) : M α := fun e => .ok a e
def M.bind {α β : Type} (m : M α) (k : α → M β) : M β := fun e =>
  match m e with
  | .ok a e' => k a e'
  | .exc c x e' => .exc c x e'
  | .stuck => .stuck
def M.stuck {α : Type} : M α := fun _ => .stuck
/-- where the data is known -/
def M.of {α : Type} : Option α → M α
  | some a => M.pure a
  | none => M.stuck
@[simp] theorem M.pure_ap {α : Type} (a : α) (e : Env) : M.pure a e = .ok a e := rfl
@[simp] theorem M.stuck_ap {α : Type} (e : Env) : (M.stuck : M α) e = .stuck := rfl
@[simp] theorem M.of_some {α : Type} (a : α) : M.of (some a) = M.pure a := rfl
@[simp] theorem M.of_none {α : Type} : M.of (none : Option α) = M.stuck := rfl
theorem M.bind_ok {α β : Type} {m : M α} {k : α → M β} {e e' : Env} {a : α} (h : m e = .ok a e') : M.bind m k e = k a e' := by unfold M.bind; rw [h]
section
variable {T : ExcT} {K : Fg} {F : Frm} {σ : L2.St} {H G G' : Hp} {e : Env}
theorem Aft.weak {α β : Type} {rel : Hp → α → β → Prop} {r : Res α} {Q : β → Hp → Prop} (h : Aft T K F σ rel G r Q) (le : LeG G G') : Aft T K F σ rel G' r Q := by
  cases r with
  | ok a e => exact fun v H1 G1 s l r => h v H1 G1 s (le.trans l) r
  | exc c x e => exact fun cls dd H1 G1 s l r => h cls dd H1 G1 s (le.trans l) r
  | stuck => exact h.elim
theorem Aft.mono {α β : Type} {rel : Hp → α → β → Prop} {r : Res α} {Q Q' : β → Hp → Prop} (h : Aft T K F σ rel G r Q) (hq : ∀ v H, Q v H → Q' v H) : Aft T K F σ rel G r Q' := by
  cases r with
  | ok a e => exact fun v H1 G1 s l r => hq _ _ (h v H1 G1 s l r)
  | exc c x e => exact fun cls dd H1 G1 s l r => h cls dd H1 G1 s l r
  | stuck => exact h.elim
/-- THE STEP: the outcome of m, then k -/
theorem Aft.bind {α β γ δ : Type} {rel : Hp → α → β → Prop} {rel' : Hp → γ → δ → Prop} {m : M α} {k : α → M γ} {Q : δ → Hp → Prop} (h : Aft T K F σ rel' G (M.bind m k e) Q) :
    Aft T K F σ rel G (m e) (fun v H1 => ∃ a e1 G1, SR K F σ H1 e1 G1 ∧ LeG G G1 ∧ rel G1 a v ∧ Aft T K F σ rel' G1 (k a e1) Q) := by
  unfold M.bind at h
  cases hm : m e with
  | ok a e1 =>
    rw [hm] at h
    exact fun v H1 G1 s l r => ⟨a, e1, G1, s, l, r, h.weak l⟩
  | exc c x e1 =>
    rw [hm] at h
    exact h
  | stuck =>
    rw [hm] at h
    exact h.elim
end
end Tp
/-! Tp2: the judgements by outcomes, operands, operations on values. -/
namespace Tp
open PySem PySem.Spec PyProof.Rows L2
/-- an operand: a value, or a name whose object is this frame's own -/
abbrev Opd := Sum D Nat
def rE (K : Fg) : L2.St → Hp → D → V → Prop := fun _ G d v => RD K G d v
def rT : L2.St → Hp → Bool → Bool → Prop := fun _ _ b v => b = v
def rO (K : Fg) : L2.St → Hp → Opd → V → Prop := fun σ G o v => match o with | .inl d => RD K G d v | .inr i => σ[i]? = some (some v)
inductive ROs (K : Fg) (σ : L2.St) (G : Hp) : List Opd → List V → Prop
  | nil : ROs K σ G [] []
  | cons {o : Opd} {v : V} {os : List Opd} {vs : List V} : rO K σ G o v → ROs K σ G os vs → ROs K σ G (o :: os) (v :: vs)
theorem rO.le {K : Fg} {σ : L2.St} {G G' : Hp} (l : LeG G G') {o : Opd} {v : V} (h : rO K σ G o v) : rO K σ G' o v := by
  cases o with
  | inl d => exact RD.le l (show RD K G d v from h)
  | inr i => exact h
theorem ROs.le {K : Fg} {σ : L2.St} {G G' : Hp} (l : LeG G G') : ∀ {os : List Opd} {vs : List V}, ROs K σ G os vs → ROs K σ G' os vs
  | _, _, .nil => .nil
  | _, _, .cons a b => .cons (rO.le l a) (ROs.le l b)
def tX (T : ExcT) (K : Fg) (F : Frm) {α β : Type} (rel : L2.St → Hp → α → β → Prop) (m : M α) : L2.St → Hp → (β → Hp → Prop) → Prop := fun σ H Q =>
  ∃ e G, SR K F σ H e G ∧ Aft T K F σ (rel σ) G (m e) Q
/-- an expression does what m says -/
def SE (T : ExcT) (X : Cx) (ex : Expr) (m : M D) : Prop := ∀ F : Frm, Takes X F.W → PE X ex (tX T X.K F (rE X.K) m)
def SO (T : ExcT) (X : Cx) (ex : Expr) (m : M Opd) : Prop := ∀ F : Frm, Takes X F.W → PE X ex (tX T X.K F (rO X.K) m)
def SB (T : ExcT) (X : Cx) (ex : Expr) (m : M Bool) : Prop := ∀ F : Frm, Takes X F.W → PT X ex (tX T X.K F rT m)
def SBW (T : ExcT) (X : Cx) (ex : Expr) (m : M Bool) : Prop := ∀ F : Frm, Takes X F.W → PW X ex (tX T X.K F rT m)
def SA (T : ExcT) (X : Cx) (es : List Expr) (m : M (List Opd)) : Prop := ∀ F : Frm, Takes X F.W → PA X es (tX T X.K F (ROs X.K) m)
/-- weakening of a rule's own reading -/
theorem PE.weak {X : Cx} {e : Expr} {t t' : TE} (h : PE X e t) (w : ∀ σ H Q, t' σ H Q → t σ H Q) : PE X e t' := ⟨fun pins s σ H Q I q => h.run pins s σ H Q I (w σ H Q q)⟩
theorem PT.weak {X : Cx} {e : Expr} {t t' : TT} (h : PT X e t) (w : ∀ σ H Q, t' σ H Q → t σ H Q) : PT X e t' := ⟨fun pins s σ H Q I q => h.run pins s σ H Q I (w σ H Q q)⟩
theorem PW.weak {X : Cx} {e : Expr} {t t' : TT} (h : PW X e t) (w : ∀ σ H Q, t' σ H Q → t σ H Q) : PW X e t' := ⟨fun wh pins s σ H Q I q => h.run wh pins s σ H Q I (w σ H Q q)⟩
theorem PA.weak {X : Cx} {e : List Expr} {t t' : TA} (h : PA X e t) (w : ∀ σ H Q, t' σ H Q → t σ H Q) : PA X e t' := ⟨fun pos pins s σ H Q I q => h.run pos pins s σ H Q I (w σ H Q q)⟩
theorem PS.weak {X : Cx} {e : Stmt} {t t' : TS} (h : PS X e t) (w : ∀ D σ H, t' D σ H → t D σ H) : PS X e t' := ⟨fun pins s σ H D I q => h.run pins s σ H D I (w D σ H q)⟩
theorem PSs.weak {X : Cx} {e : List Stmt} {t t' : TS} (h : PSs X e t) (w : ∀ D σ H, t' D σ H → t D σ H) : PSs X e t' := ⟨fun pins s σ H D I q => h.run pins s σ H D I (w D σ H q)⟩
/-- the heap has grown by new objects, some of them known -/
structure Grow (G H G' H' : Hp) : Prop where
  h : LeG H H'
  g : LeG G G'
  le : LeG G' H'
  new : ∀ b o, G' b = some o → G b = some o ∨ H b = none
theorem Grow.refl {G H : Hp} (l : LeG G H) : Grow G H G H := ⟨LeG.refl, LeG.refl, l, fun _ _ h => .inl h⟩
theorem Grow.trans {G H G1 H1 G2 H2 : Hp} (a : Grow G H G1 H1) (b : Grow G1 H1 G2 H2) : Grow G H G2 H2 := by
  refine ⟨a.h.trans b.h, a.g.trans b.g, b.le, fun c o h => ?_⟩
  rcases b.new c o h with q | q
  · exact a.new c o q
  · refine .inr ?_
    cases e : H c with
    | none => rfl
    | some u => rw [a.h c u e] at q; cases q
/-- one new object -/
theorem Grow.one {G H : Hp} (l : LeG G H) {p : Addr} (np : H p = none) (o : HO) : Grow G H (upd G p o) (upd H p o) := by
  have gp : G p = none := by
    cases e : G p with
    | none => rfl
    | some u => rw [l p u e] at np; cases np
  refine ⟨fun b u e => ?_, fun b u e => ?_, fun b u e => ?_, fun b u e => ?_⟩
  · rw [upd_ne (ne_of_none e np)]; exact e
  · rw [upd_ne (ne_of_none e gp)]; exact e
  · by_cases hb : b = p
    · subst hb; rw [upd_same] at e ⊢; exact e
    · rw [upd_ne hb] at e ⊢; exact l b u e
  · by_cases hb : b = p
    · subst hb; exact .inr np
    · rw [upd_ne hb] at e; exact .inl e
/-- a new object that is not known -/
theorem Grow.hid {G H : Hp} (l : LeG G H) {p : Addr} (np : H p = none) (o : HO) : Grow G H G (upd H p o) := by
  refine ⟨fun b u e => ?_, LeG.refl, fun b u e => ?_, fun b u e => .inl e⟩
  · rw [upd_ne (ne_of_none e np)]; exact e
  · rw [upd_ne (ne_of_none (l b u e) np)]; exact l b u e
section
variable {K : Fg} {F : Frm} {σ : L2.St} {H H' G G' : Hp} {e : Env}
theorem SR.mine (s : SR K F σ H e G) {i : Nat} {d : D} (h : e[i]?.bind Slot.mine? = some d) : ∃ a, σ[i]? = some (some (.ref a)) ∧ OwnAt K G H a d ∧ (∀ p ∈ F.R, p.1 ≠ a) ∧ (F.H0 a = none ∨ (i, a) ∈ F.ios) := by
  cases q : e[i]? with
  | none => rw [q] at h; simp at h
  | some sl =>
    rw [q] at h
    cases sl with
    | no => simp [Slot.mine?] at h
    | val d' => simp [Slot.mine?] at h
    | own d' =>
      have z : d' = d := by simpa [Slot.mine?] using h
      subst z
      obtain ⟨a, h1, h2, h3, h4⟩ := s.owns i d' q
      exact ⟨a, h1, h2, h4, .inl h3⟩
    | io d' =>
      have z : d' = d := by simpa [Slot.mine?] using h
      subst z
      obtain ⟨a, h1, h2, h4⟩ := s.iosl i d' q
      exact ⟨a, (s.iosv _ h1).1, h2, h4, .inr h1⟩
theorem SR.grow (s : SR K F σ H e G) (w : Grow G H G' H') : SR K F σ H' e G' := by
  have fr : ∀ {a : Addr} {d : D}, OwnAt K G H a d → OwnAt K G' H' a d := fun {a d} o => by
    refine o.mono w.g ?_ (fun u q => w.h a u q)
    cases q : G' a with
    | none => rfl
    | some u =>
      rcases w.new a u q with z | z
      · rw [o.free] at z; cases z
      · obtain ⟨v, hv⟩ := o.there
        rw [hv] at z; cases z
  refine ⟨w.le, s.len, fun i d h => ?_, fun i d h => ?_, fun i d h => ?_, s.iosv, s.dist, fun b o hb h => w.h b o (s.keep b o hb h), s.gk.trans w.g, fun b o h => ?_, fun p hp => ?_⟩
  · obtain ⟨v, h1, h2⟩ := s.vals i d h
    exact ⟨v, h1, h2.le w.g⟩
  · obtain ⟨a, h1, h2, h3, h4⟩ := s.owns i d h
    exact ⟨a, h1, fr h2, h3, h4⟩
  · obtain ⟨a, h1, h2, h4⟩ := s.iosl i d h
    exact ⟨a, h1, fr h2, h4⟩
  · rcases w.new b o h with q | q
    · exact s.fresh b o q
    · refine .inr ?_
      cases z : F.H0 b with
      | none => rfl
      | some u =>
        by_cases hb : b ∈ F.O
        · obtain ⟨p, hp, rfl⟩ := List.mem_map.mp hb
          obtain ⟨h1, d, h2⟩ := s.iosv p hp
          obtain ⟨a, h3, h4, _⟩ := s.iosl p.1 d h2
          have h5 := (s.iosv _ h3).1
          rw [h1] at h5
          have h6 : p.2 = a := by
            injection h5 with h5
            injection h5 with h5
            injection h5
          obtain ⟨v, hv⟩ := h4.there
          rw [← h6, q] at hv
          cases hv
        · rw [s.keep b u hb z] at q; cases q
  · obtain ⟨h1, h2, h3⟩ := s.res p hp
    refine ⟨w.h _ _ h1, ?_, h3⟩
    cases q : G' p.1 with
    | none => rfl
    | some u =>
      rcases w.new p.1 u q with z | z
      · rw [h2] at z; cases z
      · rw [h1] at z; cases z
end
/-- readable: known, or an object of one's own -/
def RB (K : Fg) (G H : Hp) (d : D) (v : V) : Prop := RD K G d v ∨ ∃ a, v = .ref a ∧ OwnAt K G H a d
inductive RBs (K : Fg) (G H : Hp) : List D → List V → Prop
  | nil : RBs K G H [] []
  | cons {d : D} {v : V} {ds : List D} {vs : List V} : RB K G H d v → RBs K G H ds vs → RBs K G H (d :: ds) (v :: vs)
theorem RB.list {K : Fg} {G H : Hp} {ds : List D} {v : V} (l : LeG G H) (h : RB K G H (.list ds) v) : ∃ a vs, v = .ref a ∧ LsK K H a vs ∧ RDs K G ds vs := by
  rcases h with h | ⟨a, rfl, _, vs, h, r⟩
  · cases h with
    | lst s r => exact ⟨_, _, rfl, LsK.le l s, r⟩
  · exact ⟨a, vs, rfl, .inl (.inl h), r⟩
theorem RB.tuple {K : Fg} {G H : Hp} {ds : List D} {v : V} (l : LeG G H) (h : RB K G H (.tuple ds) v) : ∃ a vs, v = .ref a ∧ SqT K H a vs ∧ RDs K G ds vs ∧ RD K G (.tuple ds) v := by
  rcases h with h | ⟨a, rfl, h⟩
  · cases h with
    | tup s r => exact ⟨_, _, rfl, SqT.le l s, r, .tup s r⟩
  · exact h.elim
theorem RB.int {K : Fg} {G H : Hp} {i : Int} {v : V} (h : RB K G H (.int i) v) : v = .int i := by
  rcases h with h | ⟨a, rfl, h⟩
  · cases h; rfl
  · exact h.elim
theorem RB.str {K : Fg} {G H : Hp} {i : Str} {v : V} (h : RB K G H (.str i) v) : v = .str i := by
  rcases h with h | ⟨a, rfl, h⟩
  · cases h; rfl
  · exact h.elim
theorem RB.bool {K : Fg} {G H : Hp} {i : Bool} {v : V} (h : RB K G H (.bool i) v) : v = .bl i := by
  rcases h with h | ⟨a, rfl, h⟩
  · cases h; rfl
  · exact h.elim
theorem RB.none {K : Fg} {G H : Hp} {v : V} (h : RB K G H .none v) : v = .non := by
  rcases h with h | ⟨a, rfl, h⟩
  · cases h; rfl
  · exact h.elim
theorem RD.int' {K : Fg} {G : Hp} {i : Int} {v : V} (h : RD K G (.int i) v) : v = .int i := by cases h; rfl
theorem RD.bool' {K : Fg} {G : Hp} {i : Bool} {v : V} (h : RD K G (.bool i) v) : v = .bl i := by cases h; rfl
/-- the data of an operand, now -/
def resolve (o : Opd) (e : Env) : Option D :=
  match o with
  | .inl d => some d
  | .inr i => e[i]?.bind Slot.mine?
def resolves : List Opd → Env → Option (List D)
  | [], _ => some []
  | o :: os, e => (resolve o e).bind fun d => (resolves os e).map fun ds => d :: ds
theorem SR.rb {K : Fg} {F : Frm} {σ : L2.St} {H G : Hp} {e : Env} (s : SR K F σ H e G) {o : Opd} {v : V} {d : D} (r : rO K σ G o v) (h : resolve o e = some d) : RB K G H d v := by
  cases o with
  | inl d' =>
    have z : d' = d := Option.some.inj h
    subst z
    exact .inl r
  | inr i =>
    obtain ⟨a, h1, h2, _⟩ := s.mine (i := i) (d := d) h
    have r' : σ[i]? = some (some v) := r
    rw [h1] at r'
    have z : V.ref a = v := by
      injection r' with r'
      injection r' with r'
    exact .inr ⟨a, z.symm, h2⟩
theorem SR.rbs {K : Fg} {F : Frm} {σ : L2.St} {H G : Hp} {e : Env} (s : SR K F σ H e G) : ∀ {os : List Opd} {vs : List V} {ds : List D}, ROs K σ G os vs → resolves os e = some ds → RBs K G H ds vs
  | _, _, _, .nil, h => by
    cases h
    exact .nil
  | o :: os, _, ds, .cons a b, h => by
    unfold resolves at h
    cases h1 : resolve o e with
    | none => rw [h1] at h; cases h
    | some d =>
      rw [h1] at h
      cases h2 : resolves os e with
      | none => rw [h2] at h; cases h
      | some ds' =>
        rw [h2] at h
        cases h
        exact .cons (s.rb a h1) (s.rbs b h2)
/-- an operation on one value, on two, on a list of them: f says what it gives -/
def Op1 (K : Fg) (r : V → Hp → VK → Prop) (f : D → Option D) : Prop := ∀ (G H : Hp) (d : D) (v : V) (d' : D) (Q : VK), LeG G H → RB K G H d v → f d = some d' →
  (∀ v' G' H', Grow G H G' H' → RD K G' d' v' → Q v' H') → r v H Q
def Op2 (K : Fg) (r : R2) (f : D → D → Option D) : Prop := ∀ (G H : Hp) (d1 d2 : D) (v1 v2 : V) (d' : D) (Q : VK), LeG G H → RB K G H d1 v1 → RB K G H d2 v2 → f d1 d2 = some d' →
  (∀ v' G' H', Grow G H G' H' → RD K G' d' v' → Q v' H') → r v1 v2 H Q
def OpN (K : Fg) (r : List V → Hp → VK → Prop) (f : List D → Option D) : Prop := ∀ (G H : Hp) (ds : List D) (vs : List V) (d' : D) (Q : VK), LeG G H → RBs K G H ds vs → f ds = some d' →
  (∀ v' G' H', Grow G H G' H' → RD K G' d' v' → Q v' H') → r vs H Q
def doOp1 (f : D → Option D) (o : Opd) : M D := fun e => match (resolve o e).bind f with | some d => .ok d e | none => .stuck
def doOp2 (f : D → D → Option D) (o1 o2 : Opd) : M D := fun e => match (resolve o1 e).bind fun d1 => (resolve o2 e).bind fun d2 => f d1 d2 with | some d => .ok d e | none => .stuck
def doOpN (f : List D → Option D) (os : List Opd) : M D := fun e => match (resolves os e).bind f with | some d => .ok d e | none => .stuck
section
variable {T : ExcT} {K : Fg} {F : Frm} {σ : L2.St} {H G : Hp} {e : Env} {Q : VK}
theorem aft_op1 {r : V → Hp → VK → Prop} {f : D → Option D} (op : Op1 K r f) (s : SR K F σ H e G) {o : Opd} {v : V} (ro : rO K σ G o v) (h : Aft T K F σ (rE K σ) G (doOp1 f o e) Q) : r v H Q := by
  unfold doOp1 at h
  cases h1 : resolve o e with
  | none => rw [h1] at h; exact h.elim
  | some d =>
    rw [h1] at h
    cases h2 : f d with
    | none => rw [show (some d : Option D).bind f = f d from rfl, h2] at h; exact h.elim
    | some d' =>
      rw [show (some d : Option D).bind f = f d from rfl, h2] at h
      exact op G H d v d' Q s.le (s.rb ro h1) h2 fun v' G' H' w q => h v' H' G' (s.grow w) w.g q
theorem aft_op2 {r : R2} {f : D → D → Option D} (op : Op2 K r f) (s : SR K F σ H e G) {o1 o2 : Opd} {v1 v2 : V} (r1 : rO K σ G o1 v1) (r2 : rO K σ G o2 v2) (h : Aft T K F σ (rE K σ) G (doOp2 f o1 o2 e) Q) : r v1 v2 H Q := by
  unfold doOp2 at h
  cases h1 : resolve o1 e with
  | none => rw [h1] at h; exact h.elim
  | some d1 =>
    rw [h1] at h
    cases h2 : resolve o2 e with
    | none => rw [h2] at h; exact h.elim
    | some d2 =>
      rw [h2] at h
      cases h3 : f d1 d2 with
      | none =>
        rw [show ((some d1 : Option D).bind fun d1 => (some d2 : Option D).bind fun d2 => f d1 d2) = f d1 d2 from rfl, h3] at h
        exact h.elim
      | some d' =>
        rw [show ((some d1 : Option D).bind fun d1 => (some d2 : Option D).bind fun d2 => f d1 d2) = f d1 d2 from rfl, h3] at h
        exact op G H d1 d2 v1 v2 d' Q s.le (s.rb r1 h1) (s.rb r2 h2) h3 fun v' G' H' w q => h v' H' G' (s.grow w) w.g q
theorem aft_opN {r : List V → Hp → VK → Prop} {f : List D → Option D} (op : OpN K r f) (s : SR K F σ H e G) {os : List Opd} {vs : List V} (ro : ROs K σ G os vs) (h : Aft T K F σ (rE K σ) G (doOpN f os e) Q) : r vs H Q := by
  unfold doOpN at h
  cases h1 : resolves os e with
  | none => rw [h1] at h; exact h.elim
  | some ds =>
    rw [h1] at h
    cases h2 : f ds with
    | none => rw [show (some ds : Option (List D)).bind f = f ds from rfl, h2] at h; exact h.elim
    | some d' =>
      rw [show (some ds : Option (List D)).bind f = f ds from rfl, h2] at h
      exact op G H ds vs d' Q s.le (s.rbs ro h1) h2 fun v' G' H' w q => h v' H' G' (s.grow w) w.g q
end
section
variable {T : ExcT} {X : Cx} {a b c : Expr} {ma mb mc : M Opd} {pos : Pos}
/-- a value is an operand -/
theorem SE.so {m : M D} (h : SE T X a m) : SO T X a (M.bind m fun d => M.pure (.inl d)) := fun F tk => PE.weak (h F tk) fun σ H Q ⟨e, G, s, q⟩ => by
  refine ⟨e, G, s, (Aft.bind q).mono fun v H1 ⟨d, e1, G1, s1, l1, r1, q1⟩ => q1 v H1 G1 s1 LeG.refl r1⟩
theorem se_bin {op : Operator} {r : R2} {f : D → D → Option D} (ho : OpR X (binaryOp op) r) (op2 : Op2 X.K r f) (ha : SO T X a ma) (hb : SO T X b mb) :
    SE T X (.BinOp a op b pos) (M.bind ma fun o1 => M.bind mb fun o2 => doOp2 f o1 o2) := fun F tk => PE.weak (pe_op ho (ha F tk) (hb F tk)) fun σ H Q ⟨e, G, s, q⟩ => by
  refine ⟨e, G, s, (Aft.bind q).mono fun v1 H1 ⟨o1, e1, G1, s1, l1, r1, q1⟩ => ?_⟩
  refine ⟨e1, G1, s1, (Aft.bind q1).mono fun v2 H2 ⟨o2, e2, G2, s2, l2, r2, q2⟩ => ?_⟩
  exact aft_op2 op2 s2 (rO.le l2 r1) r2 q2
theorem se_un {op : UnaryOp} {r : V → Hp → VK → Prop} {f : D → Option D} (ho : UnR X (unaryOp op) r) (op1 : Op1 X.K r f) (ha : SO T X a ma) :
    SE T X (.UnaryOp op a pos) (M.bind ma fun o1 => doOp1 f o1) := fun F tk => PE.weak (pe_un ho (ha F tk)) fun σ H Q ⟨e, G, s, q⟩ => by
  refine ⟨e, G, s, (Aft.bind q).mono fun v1 H1 ⟨o1, e1, G1, s1, l1, r1, q1⟩ => ?_⟩
  exact aft_op1 op1 s1 r1 q1
theorem se_cmp {op : CmpOp} {r : R2} {f : D → D → Option D} (ho : OpR X (compareOp op) r) (op2 : Op2 X.K r f) (ha : SO T X a ma) (hb : SO T X b mb) (hm : behindInMarks op b = false) :
    SE T X (.Compare a [op] [b] pos) (M.bind ma fun o1 => M.bind mb fun o2 => doOp2 f o1 o2) := fun F tk => PE.weak (pe_cmpR ho (ha F tk) (hb F tk) hm) fun σ H Q ⟨e, G, s, q⟩ => by
  refine ⟨e, G, s, (Aft.bind q).mono fun v1 H1 ⟨o1, e1, G1, s1, l1, r1, q1⟩ => ?_⟩
  refine ⟨e1, G1, s1, (Aft.bind q1).mono fun v2 H2 ⟨o2, e2, G2, s2, l2, r2, q2⟩ => ?_⟩
  exact aft_op2 op2 s2 (rO.le l2 r1) r2 q2
def asB (d : D) : M Bool := M.of (match d with | .bool b => some b | _ => none)
theorem aft_asB {K : Fg} {F : Frm} {σ : L2.St} {H G : Hp} {e : Env} {Q : Bool → Hp → Prop} {d : D} {v : V} (s : SR K F σ H e G) (r : RD K G d v) (h : Aft T K F σ (rT σ) G (asB d e) Q) : ∃ k, v = .bl k ∧ d = .bool k ∧ Q k H := by
  cases d with
  | bool k =>
    cases r
    exact ⟨k, rfl, rfl, h k H G s LeG.refl rfl⟩
  | _ => exact h.elim
theorem sb_cmp {op : CmpOp} {r : R2} {f : D → D → Option D} (ho : OpR X (compareOp op) r) (op2 : Op2 X.K r f) (ha : SO T X a ma) (hb : SO T X b mb) (hm : behindInMarks op b = false) :
    SB T X (.Compare a [op] [b] pos) (M.bind (M.bind ma fun o1 => M.bind mb fun o2 => doOp2 f o1 o2) asB) := fun F tk => PT.weak (pt_cmpR ho (ha F tk) (hb F tk) hm) fun σ H Q ⟨e, G, s, q⟩ => by
  have q' := Aft.bind (rel := rE X.K σ) q
  refine ⟨e, G, s, (Aft.bind q').mono fun v1 H1 ⟨o1, e1, G1, s1, l1, r1, q1⟩ => ?_⟩
  refine ⟨e1, G1, s1, (Aft.bind q1).mono fun v2 H2 ⟨o2, e2, G2, s2, l2, r2, q2⟩ => ?_⟩
  refine aft_op2 op2 s2 (rO.le l2 r1) r2 (q2.mono fun v H3 ⟨d, e3, G3, s3, l3, r3, q3⟩ => ?_)
  obtain ⟨k, h1, _, h3⟩ := aft_asB s3 r3 q3
  exact ⟨k, h1, h3⟩
/-- a value as a test -/
theorem SE.sb {m : M D} (h : SE T X a m) (he : ∀ whole, isTrue a X.env whole = (do let v ← whole; standAt a.pos; holding [v] (truthy v))) : SB T X a (M.bind m asB) := fun F tk => PT.weak (pt_val (h F tk) he) fun σ H Q ⟨e, G, s, q⟩ => by
  refine ⟨e, G, s, (Aft.bind q).mono fun v H1 ⟨d, e1, G1, s1, l1, r1, q1⟩ => ?_⟩
  obtain ⟨k, h1, _, h3⟩ := aft_asB s1 r1 q1
  exact ⟨k, h1, h3⟩
theorem sb_not {m : M Bool} (h : SB T X a m) : SB T X (.UnaryOp .Not a pos) (M.bind m fun b => M.pure (!b)) := fun F tk => PT.weak (pt_not (h F tk)) fun σ H Q ⟨e, G, s, q⟩ => by
  refine ⟨e, G, s, (Aft.bind q).mono fun v H1 ⟨d, e1, G1, s1, l1, r1, q1⟩ => ?_⟩
  have z : d = v := r1
  subst z
  exact q1 (!d) H1 G1 s1 LeG.refl rfl
theorem sbw_and1 {m : M Bool} (h : SB T X a m) : SBW T X (.BoolOp .And [a] pos) m := fun F tk => pw_and1 (h F tk)
theorem sbw_or1 {m : M Bool} (h : SB T X a m) : SBW T X (.BoolOp .Or [a] pos) m := fun F tk => pw_or1 (h F tk)
theorem SBW.sb {m : M Bool} (h : SBW T X a m) : SB T X a m := fun F tk => PW.pt (h F tk)
theorem sbw_and {rest : List Expr} {m m' : M Bool} (h : SB T X a m) (h' : SBW T X (.BoolOp .And (b :: rest) pos) m') : SBW T X (.BoolOp .And (a :: b :: rest) pos) (M.bind m fun k => if k then m' else M.pure false) :=
  fun F tk => PW.weak (pw_and (h F tk) (h' F tk)) fun σ H Q ⟨e, G, s, q⟩ => by
  refine ⟨e, G, s, (Aft.bind q).mono fun v H1 ⟨d, e1, G1, s1, l1, r1, q1⟩ => ?_⟩
  have z : d = v := r1
  subst z
  cases d with
  | true => exact ⟨e1, G1, s1, q1⟩
  | false => exact q1 false H1 G1 s1 LeG.refl rfl
theorem sbw_or {rest : List Expr} {m m' : M Bool} (h : SB T X a m) (h' : SBW T X (.BoolOp .Or (b :: rest) pos) m') : SBW T X (.BoolOp .Or (a :: b :: rest) pos) (M.bind m fun k => if k then M.pure true else m') :=
  fun F tk => PW.weak (pw_or (h F tk) (h' F tk)) fun σ H Q ⟨e, G, s, q⟩ => by
  refine ⟨e, G, s, (Aft.bind q).mono fun v H1 ⟨d, e1, G1, s1, l1, r1, q1⟩ => ?_⟩
  have z : d = v := r1
  subst z
  cases d with
  | true => exact q1 true H1 G1 s1 LeG.refl rfl
  | false => exact ⟨e1, G1, s1, q1⟩
/-- and, or, not as values -/
theorem se_one {op : BoolOp} {m : M D} (h : SE T X a m) : SE T X (.BoolOp op [a] pos) m := fun F tk => pe_one (h F tk)
theorem se_and {rest : List Expr} {m m' : M D} (h : SE T X a m) (h' : SE T X (.BoolOp .And (b :: rest) pos) m') : SE T X (.BoolOp .And (a :: b :: rest) pos) (M.bind (M.bind m asB) fun k => if k then m' else M.pure (.bool false)) :=
  fun F tk => PE.weak (pe_and (h F tk) (h' F tk)) fun σ H Q ⟨e, G, s, q⟩ => by
  have q' := Aft.bind (rel := rT σ) q
  refine ⟨e, G, s, (Aft.bind q').mono fun v H1 ⟨d, e1, G1, s1, l1, r1, q1⟩ => ?_⟩
  obtain ⟨k, h1, h2, h3⟩ := aft_asB s1 r1 q1
  obtain ⟨k', e2, G2, s2, l2, r2, q2⟩ := h3
  have z : k' = k := r2
  subst z
  refine ⟨k', h1, ?_⟩
  cases k' with
  | true => exact ⟨e2, G2, s2, q2⟩
  | false => exact q2 _ H1 G2 s2 LeG.refl (.bl false)
theorem se_or {rest : List Expr} {m m' : M D} (h : SE T X a m) (h' : SE T X (.BoolOp .Or (b :: rest) pos) m') : SE T X (.BoolOp .Or (a :: b :: rest) pos) (M.bind (M.bind m asB) fun k => if k then M.pure (.bool true) else m') :=
  fun F tk => PE.weak (pe_or (h F tk) (h' F tk)) fun σ H Q ⟨e, G, s, q⟩ => by
  have q' := Aft.bind (rel := rT σ) q
  refine ⟨e, G, s, (Aft.bind q').mono fun v H1 ⟨d, e1, G1, s1, l1, r1, q1⟩ => ?_⟩
  obtain ⟨k, h1, h2, h3⟩ := aft_asB s1 r1 q1
  obtain ⟨k', e2, G2, s2, l2, r2, q2⟩ := h3
  have z : k' = k := r2
  subst z
  refine ⟨k', h1, ?_⟩
  cases k' with
  | true => exact q2 _ H1 G2 s2 LeG.refl (.bl true)
  | false => exact ⟨e2, G2, s2, q2⟩
theorem se_not {m : M D} (h : SE T X a m) : SE T X (.UnaryOp .Not a pos) (M.bind (M.bind m asB) fun k => M.pure (.bool !k)) := fun F tk => PE.weak (pe_not (h F tk)) fun σ H Q ⟨e, G, s, q⟩ => by
  have q' := Aft.bind (rel := rT σ) q
  refine ⟨e, G, s, (Aft.bind q').mono fun v H1 ⟨d, e1, G1, s1, l1, r1, q1⟩ => ?_⟩
  obtain ⟨k, h1, h2, h3⟩ := aft_asB s1 r1 q1
  obtain ⟨k', e2, G2, s2, l2, r2, q2⟩ := h3
  have z : k' = k := r2
  subst z
  exact ⟨k', h1, q2 _ H1 G2 s2 LeG.refl (.bl _)⟩
theorem se_if {mt : M Bool} {m m' : M D} (ht : SB T X c mt) (h : SE T X a m) (h' : SE T X b m') : SE T X (.IfExp c a b pos) (M.bind mt fun k => if k then m else m') := fun F tk => PE.weak (pe_ifExp (ht F tk) (h F tk) (h' F tk)) fun σ H Q ⟨e, G, s, q⟩ => by
  refine ⟨e, G, s, (Aft.bind q).mono fun v H1 ⟨d, e1, G1, s1, l1, r1, q1⟩ => ?_⟩
  have z : d = v := r1
  subst z
  cases d with
  | true => exact ⟨e1, G1, s1, q1⟩
  | false => exact ⟨e1, G1, s1, q1⟩
/-- a chain of two comparisons -/
theorem se_chain {op op' : CmpOp} {r r' : R2} {f f' : D → D → Option D} (ho : OpR X (compareOp op) r) (ho' : OpR X (compareOp op') r') (op2 : Op2 X.K r f) (op2' : Op2 X.K r' f') (ha : SO T X a ma) (hb : SO T X b mb) (hc : SO T X c mc)
    (hm : lastMarks [op, op'] [b, c] = false) :
    SE T X (.Compare a [op, op'] [b, c] pos) (M.bind ma fun o1 => M.bind mb fun o2 => M.bind (M.bind (doOp2 f o1 o2) asB) fun k => if k then M.bind mc fun o3 => doOp2 f' o2 o3 else M.pure (.bool false)) := fun F tk =>
  PE.weak (pe_chain ho ho' (ha F tk) (hb F tk) (hc F tk) hm) fun σ H Q ⟨e, G, s, q⟩ => by
  refine ⟨e, G, s, (Aft.bind q).mono fun v1 H1 ⟨o1, e1, G1, s1, l1, r1, q1⟩ => ?_⟩
  refine ⟨e1, G1, s1, (Aft.bind q1).mono fun v2 H2 ⟨o2, e2, G2, s2, l2, r2, q2⟩ => ?_⟩
  have q3 := Aft.bind (rel := rT σ) q2
  refine aft_op2 op2 s2 (rO.le l2 r1) r2 ((Aft.bind q3).mono fun v H3 ⟨d, e3, G3, s3, l3, r3, q4⟩ => ?_)
  obtain ⟨k, h1, _, h3⟩ := aft_asB s3 r3 q4
  obtain ⟨k', e4, G4, s4, l4, r4, q5⟩ := h3
  have z : k' = k := r4
  subst z
  refine ⟨k', h1, ?_⟩
  cases k' with
  | true =>
    refine ⟨e4, G4, s4, (Aft.bind q5).mono fun v5 H5 ⟨o5, e5, G5, s5, l5, r5, q6⟩ => ?_⟩
    exact aft_op2 op2' s5 (rO.le l5 (rO.le l4 r2)) r5 q6
  | false => exact q5 _ H3 G4 s4 LeG.refl (.bl false)
theorem sb_chain {op op' : CmpOp} {r r' : R2} {f f' : D → D → Option D} (ho : OpR X (compareOp op) r) (ho' : OpR X (compareOp op') r') (op2 : Op2 X.K r f) (op2' : Op2 X.K r' f') (ha : SO T X a ma) (hb : SO T X b mb) (hc : SO T X c mc)
    (hm : lastMarks [op, op'] [b, c] = false) :
    SB T X (.Compare a [op, op'] [b, c] pos) (M.bind (M.bind ma fun o1 => M.bind mb fun o2 => M.bind (M.bind (doOp2 f o1 o2) asB) fun k => if k then M.bind mc fun o3 => doOp2 f' o2 o3 else M.pure (.bool false)) asB) := fun F tk =>
  PT.weak (pt_chain ho ho' (ha F tk) (hb F tk) (hc F tk) hm) fun σ H Q ⟨e, G, s, q⟩ => by
  have q0 := Aft.bind (rel := rE X.K σ) q
  have fin : ∀ {v : V} {H' : Hp} , (∃ a e1 G1, SR X.K F σ H' e1 G1 ∧ LeG G G1 ∧ rE X.K σ G1 a v ∧ Aft T X.K F σ (rT σ) G1 (asB a e1) Q) → ∃ k, v = .bl k ∧ Q k H' := fun ⟨d, e3, G3, s3, l3, r3, q3⟩ => by
    obtain ⟨k, h1, _, h3⟩ := aft_asB s3 r3 q3
    exact ⟨k, h1, h3⟩
  refine ⟨e, G, s, (Aft.bind q0).mono fun v1 H1 ⟨o1, e1, G1, s1, l1, r1, q1⟩ => ?_⟩
  refine ⟨e1, G1, s1, (Aft.bind q1).mono fun v2 H2 ⟨o2, e2, G2, s2, l2, r2, q2⟩ => ?_⟩
  have q3 := Aft.bind (rel := rT σ) q2
  refine aft_op2 op2 s2 (rO.le l2 r1) r2 ((Aft.bind q3).mono fun v H3 ⟨d, e3, G3, s3, l3, r3, q4⟩ => ?_)
  obtain ⟨k, h1, _, h3⟩ := aft_asB s3 r3 q4
  obtain ⟨k', e4, G4, s4, l4, r4, q5⟩ := h3
  have z : k' = k := r4
  subst z
  refine ⟨k', h1, ?_⟩
  cases k' with
  | true =>
    refine ⟨e4, G4, s4, (Aft.bind q5).mono fun v5 H5 ⟨o5, e5, G5, s5, l5, r5, q6⟩ => ?_⟩
    exact (aft_op2 op2' s5 (rO.le l5 (rO.le l4 r2)) r5 (q6.mono fun v H h => fin h))
  | false => exact fin (q5 _ H3 G4 s4 LeG.refl (.bl false))
end
end Tp
/-! Tp3: names, constants, new objects, argument lists, calls of defs. -/
namespace Tp
open PySem PySem.Spec PyProof.Rows L2
abbrev Frm.plus (F : Frm) (p : Addr) (o : HO) : Frm := { F with R := (p, o) :: F.R }
section
variable {K : Fg} {F : Frm} {σ : L2.St} {H H' G G' : Hp} {e : Env} {p : Addr} {o : HO}
/-- a fresh object in the making -/
theorem SR.made (s : SR K F σ H e G) (np : H p = none) : SR K (F.plus p o) σ (upd H p o) e G := by
  have w := Grow.hid s.le np o
  have s' := s.grow w
  have np0 : F.H0 p = none := by
    cases z : F.H0 p with
    | none => rfl
    | some u =>
      by_cases hb : p ∈ F.O
      · obtain ⟨q, hq, rfl⟩ := List.mem_map.mp hb
        obtain ⟨h1, d, h2⟩ := s.iosv q hq
        obtain ⟨a, h3, h4, _⟩ := s.iosl q.1 d h2
        have h5 := (s.iosv _ h3).1
        rw [h1] at h5
        have h6 : q.2 = a := by
          injection h5 with h5
          injection h5 with h5
          injection h5
        obtain ⟨v, hv⟩ := h4.there
        rw [← h6, np] at hv
        cases hv
      · rw [s.keep p u hb z] at np; cases np
  have gp : G p = none := by
    cases z : G p with
    | none => rfl
    | some u => rw [s.le p u z] at np; cases np
  have ne : ∀ {a : Addr} {d : D}, OwnAt K G H a d → p ≠ a := fun {a d} ho z => by
    subst z
    obtain ⟨u, hu⟩ := ho.there
    rw [np] at hu; cases hu
  refine ⟨s'.le, s'.len, s'.vals, fun i d h => ?_, fun i d h => ?_, s'.iosv, s'.dist, s'.keep, s'.gk, s'.fresh, fun q hq => ?_⟩
  · obtain ⟨a, h1, h2, h3, h4⟩ := s.owns i d h
    obtain ⟨a', h1', h2', h3', h4'⟩ := s'.owns i d h
    refine ⟨a', h1', h2', h3', fun q hq => ?_⟩
    rcases List.mem_cons.mp hq with rfl | hq
    · rw [h1] at h1'
      have : a = a' := by
        injection h1' with h1'
        injection h1' with h1'
        injection h1'
      subst this
      exact ne h2
    · exact h4' q hq
  · obtain ⟨a, h1, h2, h4⟩ := s.iosl i d h
    obtain ⟨a', h1', h2', h4'⟩ := s'.iosl i d h
    have ea : a = a' := by
      have q1 := (s.iosv _ h1).1
      have q2 := (s.iosv _ h1').1
      simp only at q1 q2
      rw [q1] at q2
      injection q2 with q2
      injection q2 with q2
      injection q2
    subst ea
    refine ⟨a, h1', h2', fun q hq => ?_⟩
    rcases List.mem_cons.mp hq with rfl | hq
    · exact ne h2
    · exact h4' q hq
  · rcases List.mem_cons.mp hq with rfl | hq
    · exact ⟨upd_same, gp, np0⟩
    · exact s'.res q hq
/-- what was made is forgotten -/
theorem SR.unplus (s : SR K (F.plus p o) σ H e G) : SR K F σ H e G :=
  ⟨s.le, s.len, s.vals, fun i d h => let ⟨a, h1, h2, h3, h4⟩ := s.owns i d h; ⟨a, h1, h2, h3, fun q hq => h4 q (List.mem_cons_of_mem _ hq)⟩, fun i d h => let ⟨a, h1, h2, h4⟩ := s.iosl i d h; ⟨a, h1, h2, fun q hq => h4 q (List.mem_cons_of_mem _ hq)⟩,
    s.iosv, s.dist, s.keep, s.gk, s.fresh, fun q hq => s.res q (List.mem_cons_of_mem _ hq)⟩
/-- the object in the making changes -/
theorem SR.remade {o' : HO} (s : SR K (F.plus p o) σ H e G) (hR : ∀ q ∈ F.R, q.1 ≠ p) : SR K (F.plus p o') σ (upd H p o') e G := by
  obtain ⟨h1, h2, h3⟩ := s.res (p, o) List.mem_cons_self
  have keepO : ∀ {a : Addr} {d : D}, p ≠ a → OwnAt K G H a d → OwnAt K G (upd H p o') a d := fun {a d} hne ho => ho.mono LeG.refl ho.free fun u q => by rw [upd_ne (Ne.symm hne)]; exact q
  refine ⟨fun b u q => ?_, s.len, s.vals, fun i d h => ?_, fun i d h => ?_, s.iosv, s.dist, fun b u hb q => ?_, s.gk, s.fresh, fun q hq => ?_⟩
  · have hb : b ≠ p := fun z => by subst z; rw [h2] at q; cases q
    rw [upd_ne hb]; exact s.le b u q
  · obtain ⟨a, k1, k2, k3, k4⟩ := s.owns i d h
    exact ⟨a, k1, keepO (k4 (p, o) List.mem_cons_self) k2, k3, fun q hq => by
      rcases List.mem_cons.mp hq with rfl | hq
      · exact k4 (p, o) List.mem_cons_self
      · exact k4 q (List.mem_cons_of_mem _ hq)⟩
  · obtain ⟨a, k1, k2, k4⟩ := s.iosl i d h
    exact ⟨a, k1, keepO (k4 (p, o) List.mem_cons_self) k2, fun q hq => by
      rcases List.mem_cons.mp hq with rfl | hq
      · exact k4 (p, o) List.mem_cons_self
      · exact k4 q (List.mem_cons_of_mem _ hq)⟩
  · have hb' : b ≠ p := fun z => by subst z; rw [h3] at q; cases q
    rw [upd_ne hb']; exact s.keep b u hb q
  · rcases List.mem_cons.mp hq with rfl | hq
    · exact ⟨upd_same, h2, h3⟩
    · obtain ⟨k1, k2, k3⟩ := s.res q (List.mem_cons_of_mem _ hq)
      exact ⟨by rw [upd_ne (hR q hq)]; exact k1, k2, k3⟩
/-- what was made is known from now on -/
theorem SR.froze (s : SR K (F.plus p o) σ H e G) (hR : ∀ q ∈ F.R, q.1 ≠ p) : SR K F σ H e (upd G p o) ∧ LeG G (upd G p o) := by
  obtain ⟨h1, h2, h3⟩ := s.res (p, o) List.mem_cons_self
  have gl : LeG G (upd G p o) := fun b u q => by
    rw [upd_ne (ne_of_none q h2)]; exact q
  refine ⟨⟨fun b u q => ?_, s.len, fun i d h => ?_, fun i d h => ?_, fun i d h => ?_, s.iosv, s.dist, s.keep, s.gk.trans gl, fun b u q => ?_, fun q hq => ?_⟩, gl⟩
  · by_cases hb : b = p
    · subst hb; rw [upd_same] at q; rw [← q]; exact h1
    · rw [upd_ne hb] at q; exact s.le b u q
  · obtain ⟨v, k1, k2⟩ := s.vals i d h
    exact ⟨v, k1, k2.le gl⟩
  · obtain ⟨a, k1, k2, k3, k4⟩ := s.owns i d h
    have ne := k4 _ List.mem_cons_self
    exact ⟨a, k1, k2.mono gl (by rw [upd_ne (Ne.symm ne)]; exact k2.free) fun _ z => z, k3, fun q hq => k4 q (List.mem_cons_of_mem _ hq)⟩
  · obtain ⟨a, k1, k2, k4⟩ := s.iosl i d h
    have ne := k4 _ List.mem_cons_self
    exact ⟨a, k1, k2.mono gl (by rw [upd_ne (Ne.symm ne)]; exact k2.free) fun _ z => z, fun q hq => k4 q (List.mem_cons_of_mem _ hq)⟩
  · by_cases hb : b = p
    · subst hb; exact .inr h3
    · rw [upd_ne hb] at q; exact s.fresh b u q
  · obtain ⟨k1, k2, k3⟩ := s.res q (List.mem_cons_of_mem _ hq)
    exact ⟨k1, by rw [upd_ne (hR q hq)]; exact k2, k3⟩
/-- an own object's data, once it is known -/
theorem OwnAt.rd {d : D} (h : OwnAt K G H p d) (ho : H p = some o) (l : LeG G (upd G p o)) : RD K (upd G p o) d (.ref p) := by
  cases d with
  | list ds =>
    obtain ⟨_, vs, h1, r⟩ := h
    rw [ho] at h1; cases h1
    exact .lst (.inl (.inl upd_same)) (r.le l)
  | dict kvs =>
    obtain ⟨_, ⟨ks, vs, ds, h1, n, r, rfl⟩ | ⟨ks, vs, ds, h1, n, r, rfl⟩⟩ := h
    · rw [ho] at h1; cases h1
      exact .dK (.inl upd_same) n (r.le l)
    · rw [ho] at h1; cases h1
      exact .dT (.inl upd_same) n (r.le l)
  | _ => exact h.elim
end
/-- outcomes that are new objects -/
def AftN (T : ExcT) (K : Fg) (F : Frm) (σ : L2.St) (G : Hp) (r : Res D) (Q : VK) : Prop :=
  match r with
  | .ok d e => ∀ p o H' G', (∀ q ∈ F.R, q.1 ≠ p) → SR K (F.plus p o) σ H' e G' → LeG G G' → OwnAt K G' H' p d → Q (.ref p) H'
  | .exc c x e => ∀ cls dd H' G', SR K F σ H' e G' → LeG G G' → ExcOk T K G' H' c x cls dd → F.W cls dd σ H'
  | .stuck => False
def tN (T : ExcT) (K : Fg) (F : Frm) (m : M D) : TE := fun σ H Q => ∃ e G, SR K F σ H e G ∧ AftN T K F σ G (m e) Q
/-- an expression gives a new list or dict -/
def SN (T : ExcT) (X : Cx) (ex : Expr) (m : M D) : Prop := ∀ F : Frm, Takes X F.W → PE X ex (tN T X.K F m)
section
variable {T : ExcT} {K : Fg} {F : Frm} {σ : L2.St} {H G G' : Hp} {e : Env} {Q : VK}
theorem AftN.weak {r : Res D} (h : AftN T K F σ G r Q) (le : LeG G G') : AftN T K F σ G' r Q := by
  cases r with
  | ok a e => exact fun p o H1 G1 n s l r => h p o H1 G1 n s (le.trans l) r
  | exc c x e => exact fun cls dd H1 G1 s l r => h cls dd H1 G1 s (le.trans l) r
  | stuck => exact h.elim
theorem AftN.mono {r : Res D} {Q' : VK} (h : AftN T K F σ G r Q) (hq : ∀ v H, Q v H → Q' v H) : AftN T K F σ G r Q' := by
  cases r with
  | ok a e => exact fun p o H1 G1 n s l r => hq _ _ (h p o H1 G1 n s l r)
  | exc c x e => exact fun cls dd H1 G1 s l r => h cls dd H1 G1 s l r
  | stuck => exact h.elim
theorem AftN.bind {α β : Type} {rel : Hp → α → β → Prop} {m : M α} {k : α → M D} (h : AftN T K F σ G (M.bind m k e) Q) :
    Aft T K F σ rel G (m e) (fun v H1 => ∃ a e1 G1, SR K F σ H1 e1 G1 ∧ LeG G G1 ∧ rel G1 a v ∧ AftN T K F σ G1 (k a e1) Q) := by
  unfold M.bind at h
  cases hm : m e with
  | ok a e1 =>
    rw [hm] at h
    exact fun v H1 G1 s l r => ⟨a, e1, G1, s, l, r, h.weak l⟩
  | exc c x e1 =>
    rw [hm] at h
    exact h
  | stuck =>
    rw [hm] at h
    exact h.elim
/-- a new object is a value -/
theorem Aft.newly {r : Res D} (h : Aft T K F σ (rE K σ) G r Q) : AftN T K F σ G r Q := by
  cases r with
  | ok d e =>
    intro p o H' G' n s l own
    obtain ⟨s', l'⟩ := s.froze n
    exact h (.ref p) H' _ s' (l.trans l') (own.rd (s.res (p, o) List.mem_cons_self).1 l')
  | exc c x e => exact fun cls dd H1 G1 s l r => h cls dd H1 G1 s l r
  | stuck => exact h.elim
/-- a fresh object is laid: it may be taken as new -/
theorem AftN.new {d : D} {p : Addr} {o : HO} (s : SR K F σ H e G) (np : H p = none) (own : OwnAt K G (upd H p o) p d) (h : AftN T K F σ G (.ok d e) Q) : Q (.ref p) (upd H p o) :=
  h p o _ G (fun q hq z => by
    have := (s.res q hq).1
    rw [z, np] at this; cases this) (s.made np) LeG.refl own
end
theorem SN.se {T : ExcT} {X : Cx} {ex : Expr} {m : M D} (h : SN T X ex m) : SE T X ex m := fun F tk => PE.weak (h F tk) fun σ H Q ⟨e, G, s, q⟩ => ⟨e, G, s, q.newly⟩
/-! ### names, constants -/
def mVar (i : Nat) : M D := fun e => match e[i]? with | some (.val d) => .ok d e | _ => .stuck
/-- as an operand: an own object is not looked into yet -/
def mVarO (i : Nat) : M Opd := fun e => match e[i]? with | some (.val d) => .ok (.inl d) e | some (.own _) => .ok (.inr i) e | some (.io _) => .ok (.inr i) e | _ => .stuck
/-- an own object is given up: from now on it does not change -/
def mFrz (i : Nat) : M D := fun e => match e[i]? with | some (.val d) => .ok d e | some (.own d) => .ok d (e.set i (.val d)) | _ => .stuck
section
variable {T : ExcT} {X : Cx} {i : Nat} {x : Str} {pos : Pos}
theorem se_var (hN : X.N[i]? = some x) (hv : Vis X.env.scope x) (hd : (x == ("__debug__" : Str)) = false) (hcd : (x == ("__classdict__" : Str)) = false) : SE T X (.Name x pos) (mVar i) := fun F _ => PE.weak (pe_var hN hv hd hcd) fun σ H Q ⟨e, G, s, q⟩ => by
  unfold mVar at q
  cases h : e[i]? with
  | none => rw [h] at q; exact q.elim
  | some sl =>
    rw [h] at q
    cases sl with
    | val d =>
      obtain ⟨v, h1, h2⟩ := s.vals i d h
      exact ⟨v, h1, q v H G s LeG.refl h2⟩
    | _ => exact q.elim
theorem so_var (hN : X.N[i]? = some x) (hv : Vis X.env.scope x) (hd : (x == ("__debug__" : Str)) = false) (hcd : (x == ("__classdict__" : Str)) = false) : SO T X (.Name x pos) (mVarO i) := fun F _ => PE.weak (pe_var hN hv hd hcd) fun σ H Q ⟨e, G, s, q⟩ => by
  unfold mVarO at q
  cases h : e[i]? with
  | none => rw [h] at q; exact q.elim
  | some sl =>
    rw [h] at q
    cases sl with
    | no => exact q.elim
    | val d =>
      obtain ⟨v, h1, h2⟩ := s.vals i d h
      exact ⟨v, h1, q v H G s LeG.refl h2⟩
    | own d =>
      obtain ⟨a, h1, _⟩ := s.mine (i := i) (d := d) (by rw [h]; rfl)
      exact ⟨.ref a, h1, q (.ref a) H G s LeG.refl h1⟩
    | io d =>
      obtain ⟨a, h1, _⟩ := s.mine (i := i) (d := d) (by rw [h]; rfl)
      exact ⟨.ref a, h1, q (.ref a) H G s LeG.refl h1⟩
theorem SR.freeze {K : Fg} {F : Frm} {σ : L2.St} {H G : Hp} {e : Env} {d : D} (s : SR K F σ H e G) (h : e[i]? = some (.own d)) : ∃ a G', σ[i]? = some (some (.ref a)) ∧ SR K F σ H (e.set i (.val d)) G' ∧ LeG G G' ∧ RD K G' d (.ref a) := by
  obtain ⟨a, h1, h2, h3, h4⟩ := s.owns i d h
  obtain ⟨o, ho⟩ := h2.there
  have hi : i < e.length := (List.getElem?_eq_some_iff.mp h).1
  have gl : LeG G (upd G a o) := fun b u q => by rw [upd_ne (ne_of_none q h2.free)]; exact q
  have rd := h2.rd ho gl
  have old : ∀ {j : Nat} {sl : Slot}, (e.set i (.val d))[j]? = some sl → (j = i ∧ sl = .val d) ∨ (j ≠ i ∧ e[j]? = some sl) := fun {j sl} hj => by
    by_cases z : j = i
    · subst z
      rw [List.getElem?_set_self hi] at hj
      exact .inl ⟨rfl, (Option.some.inj hj).symm⟩
    · rw [List.getElem?_set_ne (Ne.symm z)] at hj
      exact .inr ⟨z, hj⟩
  have mold : ∀ {j : Nat} {d' : D}, ((e.set i (.val d))[j]?).bind Slot.mine? = some d' → j ≠ i ∧ (e[j]?).bind Slot.mine? = some d' := fun {j d'} hj => by
    cases q : (e.set i (.val d))[j]? with
    | none => rw [q] at hj; cases hj
    | some sl =>
      rw [q] at hj
      rcases old q with ⟨_, rfl⟩ | ⟨z, w⟩
      · cases hj
      · exact ⟨z, by rw [w]; exact hj⟩
  refine ⟨a, upd G a o, h1, ⟨fun b u q => ?_, by rw [List.length_set]; exact s.len, fun j d' hj => ?_, fun j d' hj => ?_, fun j d' hj => ?_, fun p hp => ?_, fun j k d1 d2 b hjk hj hk => ?_, s.keep, s.gk.trans gl, fun b u q => ?_, fun p hp => ?_⟩, gl, rd⟩
  · by_cases hb : b = a
    · subst hb; rw [upd_same] at q; rw [← q]; exact ho
    · rw [upd_ne hb] at q; exact s.le b u q
  · rcases old hj with ⟨rfl, z⟩ | ⟨_, w⟩
    · injection z with z
      subst z
      exact ⟨.ref a, h1, rd⟩
    · obtain ⟨v, k1, k2⟩ := s.vals j d' w
      exact ⟨v, k1, k2.le gl⟩
  · rcases old hj with ⟨_, z⟩ | ⟨hne, w⟩
    · cases z
    · obtain ⟨b, k1, k2, k3, k4⟩ := s.owns j d' w
      have nb : b ≠ a := fun z => by
        subst z
        exact s.dist j i d' d b hne (by rw [w]; rfl) (by rw [h]; rfl) k1 h1
      exact ⟨b, k1, k2.mono gl (by rw [upd_ne nb]; exact k2.free) fun _ z => z, k3, k4⟩
  · rcases old hj with ⟨_, z⟩ | ⟨hne, w⟩
    · cases z
    · obtain ⟨b, k1, k2, k4⟩ := s.iosl j d' w
      have nb : b ≠ a := fun z => by
        subst z
        exact s.dist j i d' d b hne (by rw [w]; rfl) (by rw [h]; rfl) (s.iosv _ k1).1 h1
      exact ⟨b, k1, k2.mono gl (by rw [upd_ne nb]; exact k2.free) fun _ z => z, k4⟩
  · obtain ⟨k1, d', k2⟩ := s.iosv p hp
    refine ⟨k1, d', ?_⟩
    have hne : p.1 ≠ i := fun z => by rw [z, h] at k2; cases k2
    rw [List.getElem?_set_ne (Ne.symm hne)]
    exact k2
  · obtain ⟨n1, w1⟩ := mold hj
    obtain ⟨n2, w2⟩ := mold hk
    exact s.dist j k d1 d2 b hjk w1 w2
  · by_cases hb : b = a
    · subst hb; exact .inr h3
    · rw [upd_ne hb] at q; exact s.fresh b u q
  · obtain ⟨k1, k2, k3⟩ := s.res p hp
    exact ⟨k1, by rw [upd_ne (h4 p hp)]; exact k2, k3⟩
theorem se_frz (hN : X.N[i]? = some x) (hv : Vis X.env.scope x) (hd : (x == ("__debug__" : Str)) = false) (hcd : (x == ("__classdict__" : Str)) = false) : SE T X (.Name x pos) (mFrz i) := fun F _ => PE.weak (pe_var hN hv hd hcd) fun σ H Q ⟨e, G, s, q⟩ => by
  unfold mFrz at q
  cases h : e[i]? with
  | none => rw [h] at q; exact q.elim
  | some sl =>
    rw [h] at q
    cases sl with
    | no => exact q.elim
    | val d =>
      obtain ⟨v, h1, h2⟩ := s.vals i d h
      exact ⟨v, h1, q v H G s LeG.refl h2⟩
    | own d =>
      obtain ⟨a, G', h1, h2, h3, h4⟩ := s.freeze h
      exact ⟨.ref a, h1, q (.ref a) H G' h2 h3 h4⟩
    | io d => exact q.elim
/-- a value that is written -/
theorem se_const {ex : Expr} {d : D} {v : V} (h : PE X ex (tC v)) (r : ∀ G, RD X.K G d v) : SE T X ex (M.pure d) := fun F _ => PE.weak h fun σ H Q ⟨e, G, s, q⟩ => q v H G s LeG.refl (r G)
end
/-! ### argument lists, displays -/
def notStar : Expr → Bool
  | .Starred .. => false
  | _ => true
theorem star_cons {e : Expr} {es : List Expr} {env : PySem.Env} (h : notStar e = true) : starEach (e :: es) env = (false, eval e env) :: starEach es env := by
  cases e <;> first | rfl | cases h
theorem star_none {env : PySem.Env} {pos : Pos} : ∀ {es : List Expr}, es.all notStar = true → (backTo pos (starEach es env)).any (·.1) = false
  | [], _ => rfl
  | e :: es, h => by
    have h' : notStar e = true ∧ es.all notStar = true := by simpa using h
    rw [star_cons h'.1]
    show (false || (backTo pos (starEach es env)).any (·.1)) = false
    rw [star_none h'.2]
    rfl
section
variable {T : ExcT} {X : Cx} {e : Expr} {es : List Expr} {m : M Opd} {ms : M (List Opd)} {pos : Pos}
theorem sa_nil : SA T X [] (M.pure []) := fun F _ => PA.weak pa_nil fun σ H Q ⟨e, G, s, q⟩ => q [] H G s LeG.refl .nil
theorem sa_cons (h : SO T X e m) (hs : SA T X es ms) (ns : notStar e = true) : SA T X (e :: es) (M.bind m fun o => M.bind ms fun os => M.pure (o :: os)) := fun F tk => PA.weak (pa_cons (h F tk) (hs F tk) (star_cons ns)) fun σ H Q ⟨e, G, s, q⟩ => by
  refine ⟨e, G, s, (Aft.bind q).mono fun v H1 ⟨o, e1, G1, s1, l1, r1, q1⟩ => ?_⟩
  refine ⟨e1, G1, s1, (Aft.bind q1).mono fun vs H2 ⟨os, e2, G2, s2, l2, r2, q2⟩ => ?_⟩
  exact q2 (v :: vs) H2 G2 s2 LeG.refl (.cons (rO.le l2 r1) r2)
/-- values alone -/
def plains : List Opd → Option (List D)
  | [] => some []
  | .inl d :: os => (plains os).map (d :: ·)
  | .inr _ :: _ => none
theorem plains_rds {K : Fg} {σ : L2.St} {G : Hp} : ∀ {os : List Opd} {vs : List V} {ds : List D}, ROs K σ G os vs → plains os = some ds → RDs K G ds vs
  | _, _, _, .nil, h => by cases h; exact .nil
  | .inl d :: os, _, ds, .cons a b, h => by
    unfold plains at h
    cases h2 : plains os with
    | none => rw [h2] at h; cases h
    | some ds' =>
      rw [h2] at h
      cases h
      exact .cons a (plains_rds b h2)
  | .inr _ :: _, _, _, .cons _ _, h => by cases h
/-- a tuple, a list is displayed -/
def mkTup (os : List Opd) : M D := fun e => match plains os with | some ds => if ds.length ≤ sizeLine then .ok (.tuple ds) e else .stuck | none => .stuck
def mkLst (os : List Opd) : M D := fun e => match plains os with | some ds => if ds.length ≤ sizeLine then .ok (.list ds) e else .stuck | none => .stuck
theorem se_tup {k : Nat} (h : SA T X es ms) : SE T X (.Tuple es k pos) (M.bind ms mkTup) := fun F tk => PE.weak (pe_tup (h F tk)) fun σ H Q ⟨e, G, s, q⟩ => by
  refine ⟨e, G, s, (Aft.bind q).mono fun vs H1 ⟨os, e1, G1, s1, l1, r1, q1⟩ => ?_⟩
  unfold mkTup at q1
  cases h1 : plains os with
  | none => rw [h1] at q1; exact q1.elim
  | some ds =>
    rw [h1] at q1
    have rd := plains_rds r1 h1
    by_cases hz : ds.length ≤ sizeLine
    · simp only [if_pos hz] at q1
      refine ⟨by rw [← rd.length]; exact hz, fun p np => ?_⟩
      have w := Grow.one s1.le np (.tup vs)
      exact q1 (.ref p) _ _ (s1.grow w) w.g (.tup (.inl (.inl upd_same)) (rd.le w.g))
    · simp only [if_neg hz] at q1
      exact q1.elim
theorem sn_lst (h : SA T X es ms) : SN T X (.List es pos) (M.bind ms mkLst) := fun F tk => PE.weak (pe_lst (h F tk)) fun σ H Q ⟨e, G, s, q⟩ => by
  refine ⟨e, G, s, (AftN.bind q).mono fun vs H1 ⟨os, e1, G1, s1, l1, r1, q1⟩ => ?_⟩
  unfold mkLst at q1
  cases h1 : plains os with
  | none => rw [h1] at q1; exact q1.elim
  | some ds =>
    rw [h1] at q1
    have rd := plains_rds r1 h1
    by_cases hz : ds.length ≤ sizeLine
    · simp only [if_pos hz] at q1
      refine ⟨by rw [← rd.length]; exact hz, fun p np => ?_⟩
      refine AftN.new (d := .list ds) s1 np ⟨?_, vs, upd_same, rd⟩ q1
      cases z : G1 p with
      | none => rfl
      | some u => rw [s1.le p u z] at np; cases np
    · simp only [if_neg hz] at q1
      exact q1.elim
end
end Tp
/-! Tp4: what a def promises by a function of data, and its calls. -/
namespace Tp
open PySem PySem.Spec PyProof.Rows L2
/-- what a call gives: the value and what is left in the object that was handed in to be changed -/
inductive FRes where
  | ok (d out : D)
  | exc (c : Nat) (x : D) (out : D)
  | stuck
mutual
def flat : D → Bool
  | .none => true
  | .bool _ => true
  | .int _ => true
  | .str _ => true
  | .tuple ds => flats ds
  | .list _ => false
  | .dict _ => false
def flats : List D → Bool
  | [] => true
  | d :: ds => flat d && flats ds
end
/-- the arguments: the one at the place io is an object to be changed -/
def ArgsN (K : Fg) (G H : Hp) : Nat → List D → List V → Prop
  | 0, ds, vs => ∃ d ds' a vs', ds = d :: ds' ∧ vs = V.ref a :: vs' ∧ OwnAt K G H a d ∧ RDs K G ds' vs'
  | n + 1, ds, vs => ∃ d ds' v vs', ds = d :: ds' ∧ vs = v :: vs' ∧ RD K G d v ∧ ArgsN K G H n ds' vs'
def ArgsR (K : Fg) (G H : Hp) : Option Nat → List D → List V → Prop
  | none => fun ds vs => RDs K G ds vs
  | some n => ArgsN K G H n
def ioA : Option Nat → List V → Option Addr
  | some j, vs => match vs[j]? with | some (.ref a) => some a | _ => none
  | none, _ => none
theorem ArgsR.io {K : Fg} {G H : Hp} : ∀ {j : Nat} {ds : List D} {vs : List V}, ArgsN K G H j ds vs → ∃ a d, vs[j]? = some (.ref a) ∧ ds[j]? = some d ∧ OwnAt K G H a d
  | 0, _, _, ⟨d, ds', a, vs', rfl, rfl, o, _⟩ => ⟨a, d, rfl, rfl, o⟩
  | n + 1, _, _, ⟨d, ds', v, vs', rfl, rfl, _, h⟩ => by
    obtain ⟨a, d', h1, h2, o⟩ := ArgsR.io (j := n) h
    exact ⟨a, d', by simpa using h1, by simpa using h2, o⟩
theorem ArgsN.length {K : Fg} {G H : Hp} : ∀ {io : Nat} {ds : List D} {vs : List V}, ArgsN K G H io ds vs → ds.length = vs.length
  | 0, _, _, ⟨d, ds', a, vs', rfl, rfl, o, r⟩ => congrArg (· + 1) (RDs.length r)
  | n + 1, _, _, ⟨d, ds', v, vs', rfl, rfl, _, h⟩ => congrArg (· + 1) (ArgsN.length (io := n) h)
theorem ArgsR.length {K : Fg} {G H : Hp} : ∀ {io : Option Nat} {ds : List D} {vs : List V}, ArgsR K G H io ds vs → ds.length = vs.length
  | none, _, _, h => RDs.length (K := K) (G := G) h
  | some _, _, _, h => ArgsN.length (K := K) (G := G) (H := H) h
theorem ArgsN.val {K : Fg} {G H : Hp} : ∀ {io : Nat} {ds : List D} {vs : List V} {i : Nat} {d : D}, ArgsN K G H io ds vs → io ≠ i → ds[i]? = some d → ∃ v, vs[i]? = some v ∧ RD K G d v
  | 0, _, _, 0, _, _, n, _ => absurd rfl n
  | 0, _, _, i + 1, d, ⟨_, ds', a, vs', rfl, rfl, o, r⟩, _, e => by
    obtain ⟨v, h1, h2⟩ := RDs.get (i := i) r (by simpa using e)
    exact ⟨v, by simpa using h1, h2⟩
  | n + 1, _, _, 0, d, ⟨_, ds', v, vs', rfl, rfl, o, r⟩, _, e => by
    simp only [List.getElem?_cons_zero, Option.some.injEq] at e
    subst e
    exact ⟨v, rfl, o⟩
  | n + 1, _, _, i + 1, d, ⟨_, ds', v, vs', rfl, rfl, o, r⟩, ne, e => by
    obtain ⟨v, h1, h2⟩ := ArgsN.val (io := n) (i := i) r (fun z => ne (by rw [z])) (by simpa using e)
    exact ⟨v, by simpa using h1, h2⟩
theorem ArgsR.val {K : Fg} {G H : Hp} : ∀ {io : Option Nat} {ds : List D} {vs : List V} {i : Nat} {d : D}, ArgsR K G H io ds vs → io ≠ some i → ds[i]? = some d → ∃ v, vs[i]? = some v ∧ RD K G d v
  | none, _, _, _, _, h, _, e => RDs.get (K := K) (G := G) h e
  | some _, _, _, _, _, h, n, e => ArgsN.val (K := K) (G := G) (H := H) h (fun z => n (by rw [z])) e
/-- behind a call -/
structure CallEnd (io : Option Addr) (G H G' H' : Hp) : Prop where
  keep : ∀ b o, io ≠ some b → H b = some o → H' b = some o
  g : LeG G G'
  le : LeG G' H'
  new : ∀ b o, G' b = some o → G b = some o ∨ H b = none
def OutR (K : Fg) (io : Option Addr) (G' H' : Hp) (out : D) : Prop := match io with | some a => OwnAt K G' H' a out | none => True
/-- THE PROMISE of a def: f says what it gives -/
def spOf (T : ExcT) (K : Fg) (io : Option Nat) (own : Bool) (f : List D → FRes) : Sp := fun vs H Q E =>
  ∃ G ds, LeG G H ∧ ArgsR K G H io ds vs ∧
    match f ds with
    | .ok d out => ∀ v G' H', CallEnd (ioA io vs) G H G' H' → OutR K (ioA io vs) G' H' out → (if own = true then ∃ p, v = .ref p ∧ H p = none ∧ OwnAt K G' H' p d else RD K G' d v) → Q v H'
    | .exc c x out => ∀ cls dd G' H', CallEnd (ioA io vs) G H G' H' → OutR K (ioA io vs) G' H' out → ExcOk T K G' H' c x cls dd → E cls dd H'
    | .stuck => False
def putMine (e : Env) (i : Nat) (d : D) : Env := match e[i]? with | some (.own _) => e.set i (.own d) | some (.io _) => e.set i (.io d) | _ => e
section
variable {K : Fg} {F : Frm} {σ : L2.St} {H H' G G' : Hp} {e : Env}
/-- an own object has changed, others were made -/
theorem SR.turned (s : SR K F σ H e G) {i : Nat} {a : Addr} {d d' : D} (hm : e[i]?.bind Slot.mine? = some d) (hs : σ[i]? = some (some (.ref a))) (keep : ∀ b o, b ≠ a → H b = some o → H' b = some o)
    (g : LeG G G') (le : LeG G' H') (new : ∀ b o, G' b = some o → G b = some o ∨ H b = none) (own : OwnAt K G' H' a d') : SR K F σ H' (putMine e i d') G' := by
  obtain ⟨a0, hs0, ho, hR, h0⟩ := s.mine hm
  have ea : a0 = a := by
    rw [hs] at hs0
    injection hs0 with z
    injection z with z
    injection z with z
    exact z.symm
  subst ea
  have hi : i < e.length := by
    cases z : e[i]? with
    | none => rw [z] at hm; cases hm
    | some _ => exact (List.getElem?_eq_some_iff.mp z).1
  have ln : (putMine e i d').length = e.length := by
    unfold putMine; split <;> simp
  have at_i : (e[i]? = some (.own d) ∧ (putMine e i d')[i]? = some (.own d')) ∨ (e[i]? = some (.io d) ∧ (putMine e i d')[i]? = some (.io d')) := by
    cases z : e[i]? with
    | none => rw [z] at hm; cases hm
    | some sl =>
      rw [z] at hm
      cases sl with
      | no => cases hm
      | val _ => cases hm
      | own d1 =>
        have : d1 = d := Option.some.inj hm
        subst this
        refine .inl ⟨rfl, ?_⟩
        unfold putMine; rw [z]
        exact List.getElem?_set_self hi
      | io d1 =>
        have : d1 = d := Option.some.inj hm
        subst this
        refine .inr ⟨rfl, ?_⟩
        unfold putMine; rw [z]
        exact List.getElem?_set_self hi
  have off : ∀ {j : Nat}, j ≠ i → (putMine e i d')[j]? = e[j]? := fun {j} hj => by
    unfold putMine; split <;> first | rfl | exact List.getElem?_set_ne (Ne.symm hj)
  have frO : ∀ {b : Addr} {d1 : D}, b ≠ a0 → OwnAt K G H b d1 → OwnAt K G' H' b d1 := fun {b d1} hb o => by
    refine o.mono g ?_ (fun u q => keep b u hb q)
    cases q : G' b with
    | none => rfl
    | some u =>
      rcases new b u q with z | z
      · rw [o.free] at z; cases z
      · obtain ⟨v, hv⟩ := o.there
        rw [hv] at z; cases z
  have mineOff : ∀ {j : Nat} {d1 : D}, ((putMine e i d')[j]?).bind Slot.mine? = some d1 → ∃ d2, (e[j]?).bind Slot.mine? = some d2 := fun {j d1} hj => by
    by_cases z : j = i
    · subst z; exact ⟨d, hm⟩
    · rw [off z] at hj; exact ⟨d1, hj⟩
  refine ⟨le, ln.trans s.len, fun j d1 hj => ?_, fun j d1 hj => ?_, fun j d1 hj => ?_, fun p hp => ?_, fun j k d1 d2 b hjk hj hk => ?_, fun b o hb q => ?_, s.gk.trans g, fun b o q => ?_, fun p hp => ?_⟩
  · have hne : j ≠ i := fun z => by
      subst z
      rcases at_i with ⟨_, z⟩ | ⟨_, z⟩ <;> rw [z] at hj <;> cases hj
    rw [off hne] at hj
    obtain ⟨v, k1, k2⟩ := s.vals j d1 hj
    exact ⟨v, k1, k2.le g⟩
  · by_cases z : j = i
    · subst z
      rcases at_i with ⟨z1, z2⟩ | ⟨_, z2⟩
      · rw [z2] at hj
        have : d' = d1 := by injection hj with hj; injection hj
        subst this
        obtain ⟨b, k1, k2, k3, k4⟩ := s.owns j d z1
        have eb : b = a0 := by
          rw [hs] at k1
          injection k1 with z
          injection z with z
          injection z with z
          exact z.symm
        subst eb
        exact ⟨b, hs, own, k3, k4⟩
      · rw [z2] at hj; cases hj
    · rw [off z] at hj
      obtain ⟨b, k1, k2, k3, k4⟩ := s.owns j d1 hj
      have nb : b ≠ a0 := fun w => by
        subst w
        exact s.dist j i d1 d b z (by rw [hj]; rfl) hm k1 hs
      exact ⟨b, k1, frO nb k2, k3, k4⟩
  · by_cases z : j = i
    · subst z
      rcases at_i with ⟨z1, z2⟩ | ⟨z1, z2⟩
      · rw [z2] at hj; cases hj
      · rw [z2] at hj
        have : d' = d1 := by injection hj with hj; injection hj
        subst this
        obtain ⟨b, k1, k2, k4⟩ := s.iosl j d z1
        have eb : b = a0 := by
          have q := (s.iosv _ k1).1
          simp only at q
          rw [hs] at q
          injection q with z
          injection z with z
          injection z with z
          exact z.symm
        subst eb
        exact ⟨b, k1, own, k4⟩
    · rw [off z] at hj
      obtain ⟨b, k1, k2, k4⟩ := s.iosl j d1 hj
      have nb : b ≠ a0 := fun w => by
        subst w
        exact s.dist j i d1 d b z (by rw [hj]; rfl) hm (s.iosv _ k1).1 hs
      exact ⟨b, k1, frO nb k2, k4⟩
  · obtain ⟨k1, d1, k2⟩ := s.iosv p hp
    refine ⟨k1, ?_⟩
    by_cases z : p.1 = i
    · rw [z] at k2 ⊢
      rcases at_i with ⟨z1, z2⟩ | ⟨z1, z2⟩
      · rw [k2] at z1; cases z1
      · exact ⟨_, z2⟩
    · rw [off z]; exact ⟨d1, k2⟩
  · obtain ⟨e1, w1⟩ := mineOff hj
    obtain ⟨e2, w2⟩ := mineOff hk
    exact s.dist j k e1 e2 b hjk w1 w2
  · have q' := s.keep b o hb q
    refine keep b o (fun z => ?_) q'
    subst z
    rcases h0 with z | z
    · rw [z] at q; cases q
    · exact hb (List.mem_map.mpr ⟨_, z, rfl⟩)
  · rcases new b o q with z | z
    · exact s.fresh b o z
    · refine .inr ?_
      cases y : F.H0 b with
      | none => rfl
      | some u =>
        by_cases hb : b ∈ F.O
        · obtain ⟨p, hp, rfl⟩ := List.mem_map.mp hb
          obtain ⟨h1, d1, h2⟩ := s.iosv p hp
          obtain ⟨b', h3, h4, _⟩ := s.iosl p.1 d1 h2
          have h5 := (s.iosv _ h3).1
          rw [h1] at h5
          have h6 : p.2 = b' := by
            injection h5 with h5
            injection h5 with h5
            injection h5
          obtain ⟨v, hv⟩ := h4.there
          rw [← h6, z] at hv
          cases hv
        · rw [s.keep b u hb y] at z; cases z
  · obtain ⟨k1, k2, k3⟩ := s.res p hp
    refine ⟨keep _ _ (hR p hp) k1, ?_, k3⟩
    cases q : G' p.1 with
    | none => rfl
    | some u =>
      rcases new p.1 u q with z | z
      · rw [k2] at z; cases z
      · rw [k1] at z; cases z
end
/-! ### the arguments at a call -/
/-- the data of the arguments; at io an own object -/
def argN : Nat → List Opd → Env → Option (List D)
  | 0, .inr i :: os, e => (e[i]?.bind Slot.mine?).bind fun d => (plains os).map (d :: ·)
  | n + 1, .inl d :: os, e => (argN n os e).map (d :: ·)
  | _, _, _ => none
def argD : Option Nat → List Opd → Env → Option (List D)
  | none => fun os _ => plains os
  | some n => argN n
def ioSlot : Option Nat → List Opd → Option Nat
  | some j, os => match os[j]? with | some (.inr i) => some i | _ => none
  | none, _ => none
/-- a call of a def -/
def callM (io : Option Nat) (f : List D → FRes) (os : List Opd) : M D := fun e =>
  match argD io os e with
  | some ds =>
    match f ds with
    | .ok d out => .ok d (match ioSlot io os with | some i => putMine e i out | none => e)
    | .exc c x out => .exc c x (match ioSlot io os with | some i => putMine e i out | none => e)
    | .stuck => .stuck
  | none => .stuck
/-- .. that looks at own objects and gives back nothing of them -/
def callS (f : List D → FRes) (os : List Opd) : M D := fun e =>
  match resolves os e with
  | some ds =>
    match f ds with
    | .ok d _ => if flat d = true then .ok d e else .stuck
    | .exc c x _ => if flat x = true then .exc c x e else .stuck
    | .stuck => .stuck
  | none => .stuck
section
variable {K : Fg} {F : Frm} {σ : L2.St} {H H' G G' : Hp} {e : Env}
theorem argN_rel (s : SR K F σ H e G) : ∀ {n : Nat} {os : List Opd} {vs : List V} {ds : List D}, ROs K σ G os vs → argN n os e = some ds →
    ArgsN K G H n ds vs ∧ ∃ i a d, ioSlot (some n) os = some i ∧ ioA (some n) vs = some a ∧ σ[i]? = some (some (.ref a)) ∧ e[i]?.bind Slot.mine? = some d
  | 0, .inr i :: os, v :: vs, ds, .cons a b, h => by
    unfold argN at h
    cases h1 : e[i]?.bind Slot.mine? with
    | none => rw [h1] at h; cases h
    | some d =>
      rw [h1] at h
      cases h2 : plains os with
      | none =>
        rw [show (some d : Option D).bind (fun d => (plains os).map (d :: ·)) = (plains os).map (d :: ·) from rfl, h2] at h
        cases h
      | some ds' =>
        rw [show (some d : Option D).bind (fun d => (plains os).map (d :: ·)) = (plains os).map (d :: ·) from rfl, h2] at h
        cases h
        obtain ⟨ad, k1, k2, _⟩ := s.mine h1
        have a' : σ[i]? = some (some v) := a
        rw [k1] at a'
        have ev : v = .ref ad := by
          injection a' with z
          injection z with z
          exact z.symm
        subst ev
        exact ⟨⟨d, ds', ad, vs, rfl, rfl, k2, plains_rds b h2⟩, i, ad, d, by rfl, by rfl, k1, h1⟩
  | n + 1, .inl d :: os, v :: vs, ds, .cons a b, h => by
    unfold argN at h
    cases h2 : argN n os e with
    | none => rw [h2] at h; cases h
    | some ds' =>
      rw [h2] at h
      cases h
      obtain ⟨k1, i, ad, d1, w1, w2, w3, w4⟩ := argN_rel s b h2
      refine ⟨⟨d, ds', v, vs, rfl, rfl, a, k1⟩, i, ad, d1, ?_, ?_, w3, w4⟩
      · unfold ioSlot at w1 ⊢
        simpa using w1
      · unfold ioA at w2 ⊢
        simpa using w2
  | 0, [], _, _, _, h => by cases h
  | 0, .inl _ :: _, _, _, _, h => by cases h
  | _ + 1, [], _, _, _, h => by cases h
  | _ + 1, .inr _ :: _, _, _, _, h => by cases h
theorem argD_rel (s : SR K F σ H e G) {io : Option Nat} {os : List Opd} {vs : List V} {ds : List D} (r : ROs K σ G os vs) (h : argD io os e = some ds) :
    ArgsR K G H io ds vs ∧ ∀ j, io = some j → ∃ i a d, ioSlot io os = some i ∧ ioA io vs = some a ∧ σ[i]? = some (some (.ref a)) ∧ e[i]?.bind Slot.mine? = some d := by
  cases io with
  | none => exact ⟨plains_rds r h, fun j z => nomatch z⟩
  | some n =>
    obtain ⟨k1, k2⟩ := argN_rel s r h
    exact ⟨k1, fun _ _ => k2⟩
theorem SR.called (s : SR K F σ H e G) {io : Option Nat} {os : List Opd} {vs : List V} {ds : List D} {out : D} (r : ROs K σ G os vs) (h : argD io os e = some ds) (c : CallEnd (ioA io vs) G H G' H') (o : OutR K (ioA io vs) G' H' out) :
    SR K F σ H' (match ioSlot io os with | some i => putMine e i out | none => e) G' := by
  obtain ⟨_, k⟩ := argD_rel s r h
  cases io with
  | none =>
    exact s.grow ⟨fun b u q => c.keep b u (by intro z; cases z) q, c.g, c.le, c.new⟩
  | some j =>
    obtain ⟨i, a, d, w1, w2, w3, w4⟩ := k j rfl
    rw [w1]
    rw [w2] at c o
    exact s.turned w4 w3 (fun b u hb q => c.keep b u (fun z => hb (Option.some.inj z).symm) q) c.g c.le c.new o
mutual
theorem RD.cut {as : List Addr} {G' : Hp} (nt : ∀ b ∈ as, ∀ vs, ¬ Rd G' b (.tup vs)) : ∀ {d : D} {v : V}, flat d = true → RD K G' d v → RD K (fun b => if b ∈ as then none else G' b) d v
  | _, _, _, .non => .non
  | _, _, _, .bl b => .bl b
  | _, _, _, .int i => .int i
  | _, _, _, .str x => .str x
  | _, _, f, .lst _ _ => by cases f
  | _, _, f, .tup (a := a) (xs := xs) sq r => by
    refine .tup ?_ (RDs.cut nt f r)
    rcases sq with q | q
    · refine .inl ?_
      have na : a ∉ as := fun z => nt a z xs q
      rcases q with q | ⟨ob, q⟩
      · exact .inl (by show (if a ∈ as then none else G' a) = _; rw [if_neg na]; exact q)
      · exact .inr ⟨ob, by show (if a ∈ as then none else G' a) = _; rw [if_neg na]; exact q⟩
    · exact .inr q
  | _, _, f, .dK _ _ _ => by cases f
  | _, _, f, .dT _ _ _ => by cases f
  | _, _, f, .ins _ _ _ _ => by cases f
theorem RDs.cut {as : List Addr} {G' : Hp} (nt : ∀ b ∈ as, ∀ vs, ¬ Rd G' b (.tup vs)) : ∀ {ds : List D} {vs : List V}, flats ds = true → RDs K G' ds vs → RDs K (fun b => if b ∈ as then none else G' b) ds vs
  | _, _, _, .nil => .nil
  | _, _, f, .cons a b => by
    rw [flats, Bool.and_eq_true] at f
    exact .cons (RD.cut nt f.1 a) (RDs.cut nt f.2 b)
end
/-- own objects known for a while -/
structure Snap (K : Fg) (σ : L2.St) (G H : Hp) (e : Env) (as : List Addr) : Prop where
  mine : ∀ b ∈ as, ∃ (i : Nat) (d : D), e[i]?.bind Slot.mine? = some d ∧ σ[i]? = some (some (V.ref b)) ∧ OwnAt K G H b d
def snapG (G H : Hp) (as : List Addr) : Hp := fun b => if b ∈ as then H b else G b
theorem snapG_ge (l : LeG G H) (as : List Addr) : LeG G (snapG G H as) := fun b o q => by
  unfold snapG
  by_cases hb : b ∈ as
  · rw [if_pos hb]; exact l b o q
  · rw [if_neg hb]; exact q
theorem snapG_le (l : LeG G H) (as : List Addr) : LeG (snapG G H as) H := fun b o q => by
  unfold snapG at q
  by_cases hb : b ∈ as
  · rw [if_pos hb] at q; exact q
  · rw [if_neg hb] at q; exact l b o q
theorem OwnAt.snap {as : List Addr} {a : Addr} {d : D} (l : LeG G H) (ha : a ∈ as) (o : OwnAt K G H a d) : RD K (snapG G H as) d (.ref a) := by
  have e : snapG G H as a = H a := by unfold snapG; rw [if_pos ha]
  have g := snapG_ge l as
  cases d with
  | list ds =>
    obtain ⟨_, vs, h1, r⟩ := o
    exact .lst (.inl (.inl (e.trans h1))) (r.le g)
  | dict kvs =>
    obtain ⟨_, ⟨ks, vs, ds, h1, n, r, rfl⟩ | ⟨ks, vs, ds, h1, n, r, rfl⟩⟩ := o
    · exact .dK (.inl (e.trans h1)) n (r.le g)
    · exact .dT (.inl (e.trans h1)) n (r.le g)
  | _ => exact o.elim
theorem Snap.rel (s : SR K F σ H e G) : ∀ {os : List Opd} {vs : List V} {ds : List D}, ROs K σ G os vs → resolves os e = some ds → ∃ as, Snap K σ G H e as ∧ RDs K (snapG G H as) ds vs
  | _, _, _, .nil, h => by
    cases h
    exact ⟨[], ⟨fun b hb => by cases hb⟩, .nil⟩
  | o :: os, v :: vs, ds, .cons a b, h => by
    unfold resolves at h
    cases h1 : resolve o e with
    | none => rw [h1] at h; cases h
    | some d =>
      rw [h1] at h
      cases h2 : resolves os e with
      | none => rw [h2] at h; cases h
      | some ds' =>
        rw [h2] at h
        cases h
        obtain ⟨as, sn, rs⟩ := Snap.rel s b h2
        have up : ∀ {a : Addr}, LeG (snapG G H as) (snapG G H (a :: as)) := fun {a} b o q => by
          unfold snapG at q ⊢
          by_cases hb : b ∈ as
          · rw [if_pos hb] at q; rw [if_pos (List.mem_cons_of_mem _ hb)]; exact q
          · rw [if_neg hb] at q
            by_cases hc : b ∈ a :: as
            · rw [if_pos hc]; exact s.le b o q
            · rw [if_neg hc]; exact q
        cases o with
        | inl d' =>
          have z : d' = d := Option.some.inj h1
          subst z
          exact ⟨as, sn, .cons (RD.le (snapG_ge s.le as) a) rs⟩
        | inr i =>
          obtain ⟨ad, k1, k2, _⟩ := s.mine (i := i) (d := d) h1
          have a' : σ[i]? = some (some v) := a
          rw [k1] at a'
          have ev : v = .ref ad := by
            injection a' with z
            injection z with z
            exact z.symm
          subst ev
          refine ⟨ad :: as, ⟨fun b hb => ?_⟩, .cons (k2.snap s.le List.mem_cons_self) (rs.le up)⟩
          rcases List.mem_cons.mp hb with rfl | hb
          · exact ⟨i, d, h1, k1, k2⟩
          · exact sn.mine b hb
/-- behind a look: the own objects are one's own again -/
theorem Snap.back {as : List Addr} (s : SR K F σ H e G) (sn : Snap K σ G H e as) (w : Grow (snapG G H as) H G' H') :
    SR K F σ H' e (fun b => if b ∈ as then none else G' b) ∧ LeG G (fun b => if b ∈ as then none else G' b) ∧ ∀ b ∈ as, ∀ vs, ¬ Rd G' b (.tup vs) := by
  have gas : ∀ b ∈ as, G b = none := fun b hb => let ⟨_, _, _, _, o⟩ := sn.mine b hb; o.free
  have gg : LeG G (fun b => if b ∈ as then none else G' b) := fun b o q => by
    have nb : b ∉ as := fun z => by rw [gas b z] at q; cases q
    show (if b ∈ as then none else G' b) = _
    rw [if_neg nb]
    exact w.g b o (snapG_ge s.le as b o q)
  refine ⟨s.grow ⟨w.h, gg, fun b o q => ?_, fun b o q => ?_⟩, gg, fun b hb vs r => ?_⟩
  · have q' : (if b ∈ as then none else G' b) = some o := q
    by_cases nb : b ∈ as
    · rw [if_pos nb] at q'; cases q'
    · rw [if_neg nb] at q'; exact w.le b o q'
  · have q' : (if b ∈ as then none else G' b) = some o := q
    by_cases nb : b ∈ as
    · rw [if_pos nb] at q'; cases q'
    · rw [if_neg nb] at q'
      rcases w.new b o q' with z | z
      · unfold snapG at z
        rw [if_neg nb] at z
        exact .inl z
      · exact .inr z
  · obtain ⟨i, d, _, _, o⟩ := sn.mine b hb
    obtain ⟨u, hu, nt⟩ : ∃ u, H b = some u ∧ ∀ vs, u ≠ .tup vs ∧ ∀ ob, u ≠ .frz ob (.tup vs) := by
      cases d with
      | list ds => obtain ⟨_, vs, h, _⟩ := o; exact ⟨_, h, fun _ => ⟨by simp, by simp⟩⟩
      | dict kvs => obtain ⟨_, ⟨_, _, _, h, _⟩ | ⟨_, _, _, h, _⟩⟩ := o <;> exact ⟨_, h, fun _ => ⟨by simp, by simp⟩⟩
      | _ => exact o.elim
    have hu' := w.h b u hu
    rcases r with r | ⟨ob, r⟩
    · have := w.le _ _ r
      rw [hu'] at this
      exact (nt vs).1 (Option.some.inj this)
    · have := w.le _ _ r
      rw [hu'] at this
      exact (nt vs).2 ob (Option.some.inj this)
end
/-! ### the calls -/
/-- a def that stands ready: where it is, what it promises -/
structure Def (T : ExcT) (X : Cx) (x : Str) (io : Option Nat) (own : Bool) (f : List D → FRes) : Prop where
  ex : ∃ (fa : Addr) (fd : FuncData) (k : Nat) (ps : List Str), FnOk X.prog X.w X.K X.mg X.base (L2.CX X.prog X.w) k fa fd ps (spOf T X.K io own f) ∧ Room k X.A ∧ X.mg x = some (.ref fa) ∧ PySem.W.keepIn X.K (.ref fa) = true ∧ Binds X.K fd ps []
section
variable {T : ExcT} {X : Cx} {x : Str} {io : Option Nat} {f : List D → FRes} {es : List Expr} {ms : M (List Opd)} {p pos : Pos}
/-- f(..) without arguments, the wish by the slots -/
theorem pe_callS0 {CX : CXT} {k : Nat} {fa : Addr} {fd : FuncData} {ps : List Str} {sp : Sp} {E : L2.St → XK} (F : FnOk X.prog X.w X.K X.mg X.base CX k fa fd ps sp) (hr : Room k X.A) (hg : Gl X x) (hm : X.mg x = some (.ref fa)) (hk : PySem.W.keepIn X.K (.ref fa) = true) (hb : Binds X.K fd ps []) (hx : ∀ σ, PassesAt CX X σ (E σ))
    (hdb : (x == ("__debug__" : Str)) = false) : PE X (.Call (.Name x p) [] [] pos) (tCallS sp E tNil) := by
  refine ⟨fun pins s σ H Q I h => ?_⟩
  refine wpAny_Call_Name_kw (ld_glob I hg hm ?_ hdb)
  exact PySem.W.callWith_K0 I.kIn hk (run_fnS (us := []) F hr hb (hx σ) I .nil h)
theorem pe_callAny {CX : CXT} {k : Nat} {fa : Addr} {fd : FuncData} {ps : List Str} {sp : Sp} {E : L2.St → XK} {t : TA} (F : FnOk X.prog X.w X.K X.mg X.base CX k fa fd ps sp) (hr : Room k X.A) (hg : Gl X x) (hm : X.mg x = some (.ref fa)) (hk : PySem.W.keepIn X.K (.ref fa) = true) (hb : Binds X.K fd ps []) (hx : ∀ σ, PassesAt CX X σ (E σ))
    (ha : PA X es t) (hdb : (x == ("__debug__" : Str)) = false) (hs : es.all notStar = true) (ht : es = [] → ∀ σ H Q, t σ H Q → Q [] H) : PE X (.Call (.Name x p) es [] pos) (tCallS sp E t) := by
  cases es with
  | nil => exact PE.weak (pe_callS0 F hr hg hm hk hb hx hdb) fun σ H Q q => ht rfl σ H _ q
  | cons e es =>
    have h' : notStar e = true ∧ es.all notStar = true := by simpa using hs
    exact pe_callS F hr hg hm hk hb hx ha hdb (star_cons h'.1) (star_none h'.2)
theorem se_call (dn : Def T X x io false f) (ha : SA T X es ms) (hg : Gl X x) (hdb : (x == ("__debug__" : Str)) = false) (hs : es.all notStar = true) (h0 : es = [] → ms = M.pure []) :
    SE T X (.Call (.Name x p) es [] pos) (M.bind ms (callM io f)) := fun F tk => by
  obtain ⟨fa, fd, k, ps, FO, hr, hm, hk, hb⟩ := dn.ex
  refine PE.weak (pe_callAny (E := WE F.W) FO hr hg hm hk hb (fun σ => passAt tk σ) (ha F tk) hdb hs fun z σ H Q q => ?_) fun σ H Q ⟨e, G, s, q⟩ => ?_
  · obtain ⟨e, G, s, q⟩ := q
    rw [h0 z] at q
    exact q [] H G s LeG.refl .nil
  · refine ⟨e, G, s, (Aft.bind q).mono fun vs H1 ⟨os, e1, G1, s1, l1, r1, q1⟩ => ?_⟩
    unfold callM at q1
    cases h1 : argD io os e1 with
    | none => rw [h1] at q1; exact q1.elim
    | some ds =>
      rw [h1] at q1
      obtain ⟨ar, _⟩ := argD_rel s1 r1 h1
      refine ⟨G1, ds, s1.le, ar, ?_⟩
      simp only at q1
      cases h2 : f ds with
      | ok d out =>
        rw [h2] at q1
        exact fun v G' H' c o r => q1 v H' G' (s1.called r1 h1 c o) c.g r
      | exc c x out =>
        rw [h2] at q1
        exact fun cls dd G' H' c o r => q1 cls dd H' G' (s1.called r1 h1 c o) c.g r
      | stuck =>
        rw [h2] at q1
        exact q1.elim
/-- .. that gives a new object -/
theorem sn_call (dn : Def T X x io true f) (ha : SA T X es ms) (hg : Gl X x) (hdb : (x == ("__debug__" : Str)) = false) (hs : es.all notStar = true) (h0 : es = [] → ms = M.pure []) :
    SN T X (.Call (.Name x p) es [] pos) (M.bind ms (callM io f)) := fun F tk => by
  obtain ⟨fa, fd, k, ps, FO, hr, hm, hk, hb⟩ := dn.ex
  refine PE.weak (pe_callAny (E := WE F.W) FO hr hg hm hk hb (fun σ => passAt tk σ) (ha F tk) hdb hs fun z σ H Q q => ?_) fun σ H Q ⟨e, G, s, q⟩ => ?_
  · obtain ⟨e, G, s, q⟩ := q
    rw [h0 z] at q
    exact q [] H G s LeG.refl .nil
  · refine ⟨e, G, s, (AftN.bind q).mono fun vs H1 ⟨os, e1, G1, s1, l1, r1, q1⟩ => ?_⟩
    unfold callM at q1
    cases h1 : argD io os e1 with
    | none => rw [h1] at q1; exact q1.elim
    | some ds =>
      rw [h1] at q1
      obtain ⟨ar, _⟩ := argD_rel s1 r1 h1
      refine ⟨G1, ds, s1.le, ar, ?_⟩
      simp only at q1
      cases h2 : f ds with
      | ok d out =>
        rw [h2] at q1
        intro v G' H' c o r
        rw [if_pos rfl] at r
        obtain ⟨pa, rfl, np, ow⟩ := r
        have s' := s1.called r1 h1 c o
        obtain ⟨ob, hob⟩ := ow.there
        have np0 : F.H0 pa = none := by
          cases z : F.H0 pa with
          | none => rfl
          | some u =>
            by_cases hb : pa ∈ F.O
            · obtain ⟨q', hq, rfl⟩ := List.mem_map.mp hb
              obtain ⟨g1, d1, g2⟩ := s1.iosv q' hq
              obtain ⟨a', g3, g4, _⟩ := s1.iosl q'.1 d1 g2
              have g5 := (s1.iosv _ g3).1
              rw [g1] at g5
              have g6 : q'.2 = a' := by
                injection g5 with g5
                injection g5 with g5
                injection g5
              obtain ⟨v, hv⟩ := g4.there
              rw [← g6, np] at hv
              cases hv
            · rw [s1.keep pa u hb z] at np; cases np
        have nR : ∀ q ∈ F.R, q.1 ≠ pa := fun q hq z => by
          have := (s1.res q hq).1
          rw [z, np] at this; cases this
        -- the new object stands apart from every own one
        have nown : ∀ {i : Nat} {d1 : D} {b : Addr}, (match ioSlot io os with | some i => putMine e1 i out | none => e1)[i]?.bind Slot.mine? = some d1 → σ[i]? = some (some (.ref b)) → pa ≠ b := fun {i d1 b} hi hb z => by
          subst z
          have old : ∃ d2, e1[i]?.bind Slot.mine? = some d2 := by
            cases w : ioSlot io os with
            | none => rw [w] at hi; exact ⟨d1, hi⟩
            | some j =>
              rw [w] at hi
              simp only at hi
              unfold putMine at hi
              by_cases ij : i = j
              · subst ij
                cases y : e1[i]? with
                | none => rw [y] at hi; simp only at hi; rw [y] at hi; exact ⟨d1, hi⟩
                | some sl => cases sl <;> first | exact ⟨_, rfl⟩ | (rw [y] at hi; simp only at hi; rw [y] at hi; cases hi)
              · have e' : (match e1[j]? with | some (.own _) => e1.set j (.own out) | some (.io _) => e1.set j (.io out) | _ => e1)[i]? = e1[i]? := by
                  split <;> first | rfl | exact List.getElem?_set_ne (Ne.symm ij)
                rw [e'] at hi
                exact ⟨d1, hi⟩
          obtain ⟨d2, h2⟩ := old
          obtain ⟨a2, k1, k2, _⟩ := s1.mine h2
          rw [hb] at k1
          have : pa = a2 := by
            injection k1 with k1
            injection k1 with k1
            injection k1
          subst this
          obtain ⟨u, hu⟩ := k2.there
          rw [np] at hu; cases hu
        refine q1 pa ob H' G' nR ⟨s'.le, s'.len, s'.vals, fun i d1 hi => ?_, fun i d1 hi => ?_, s'.iosv, s'.dist, s'.keep, s'.gk, s'.fresh, fun q hq => ?_⟩ c.g ow
        · obtain ⟨b, k1, k2, k3, k4⟩ := s'.owns i d1 hi
          refine ⟨b, k1, k2, k3, fun q hq => ?_⟩
          rcases List.mem_cons.mp hq with rfl | hq
          · exact nown (by rw [hi]; rfl) k1
          · exact k4 q hq
        · obtain ⟨b, k1, k2, k4⟩ := s'.iosl i d1 hi
          refine ⟨b, k1, k2, fun q hq => ?_⟩
          rcases List.mem_cons.mp hq with rfl | hq
          · exact nown (by rw [hi]; rfl) (s'.iosv _ k1).1
          · exact k4 q hq
        · rcases List.mem_cons.mp hq with rfl | hq
          · exact ⟨hob, ow.free, np0⟩
          · exact s'.res q hq
      | exc c x out =>
        rw [h2] at q1
        exact fun cls dd G' H' c o r => q1 cls dd H' G' (s1.called r1 h1 c o) c.g r
      | stuck =>
        rw [h2] at q1
        exact q1.elim
/-- .. that looks at own objects -/
theorem se_look (dn : Def T X x none false f) (ha : SA T X es ms) (hg : Gl X x) (hdb : (x == ("__debug__" : Str)) = false) (hs : es.all notStar = true) (h0 : es = [] → ms = M.pure []) :
    SE T X (.Call (.Name x p) es [] pos) (M.bind ms (callS f)) := fun F tk => by
  obtain ⟨fa, fd, k, ps, FO, hr, hm, hk, hb⟩ := dn.ex
  refine PE.weak (pe_callAny (E := WE F.W) FO hr hg hm hk hb (fun σ => passAt tk σ) (ha F tk) hdb hs fun z σ H Q q => ?_) fun σ H Q ⟨e, G, s, q⟩ => ?_
  · obtain ⟨e, G, s, q⟩ := q
    rw [h0 z] at q
    exact q [] H G s LeG.refl .nil
  · refine ⟨e, G, s, (Aft.bind q).mono fun vs H1 ⟨os, e1, G1, s1, l1, r1, q1⟩ => ?_⟩
    unfold callS at q1
    cases h1 : resolves os e1 with
    | none => rw [h1] at q1; exact q1.elim
    | some ds =>
      rw [h1] at q1
      obtain ⟨as, sn, rs⟩ := Snap.rel s1 r1 h1
      refine ⟨snapG G1 H1 as, ds, snapG_le s1.le as, rs, ?_⟩
      simp only at q1
      have grow : ∀ {G' H'}, CallEnd (ioA none vs) (snapG G1 H1 as) H1 G' H' → Grow (snapG G1 H1 as) H1 G' H' := fun c => ⟨fun b u q => c.keep b u (by intro z; cases z) q, c.g, c.le, c.new⟩
      cases h2 : f ds with
      | ok d out =>
        rw [h2] at q1
        intro v G' H' c o r
        by_cases hf : flat d = true
        · simp only [if_pos hf] at q1
          obtain ⟨s2, g2, nt⟩ := Snap.back s1 sn (grow c)
          exact q1 v H' _ s2 g2 (RD.cut nt hf r)
        · simp only [if_neg hf] at q1
          exact q1.elim
      | exc c x out =>
        rw [h2] at q1
        intro cls dd G' H' c o r
        by_cases hf : flat x = true
        · simp only [if_pos hf] at q1
          obtain ⟨s2, g2, nt⟩ := Snap.back s1 sn (grow c)
          refine q1 cls dd H' _ s2 g2 ?_
          obtain ⟨C, w1, w2, w3⟩ := r
          refine ⟨C, w1, w2, ?_⟩
          cases w : T.attr _ with
          | none => rw [w] at w3; exact w3
          | some n =>
            rw [w] at w3
            obtain ⟨d0, v0, y1, y2, y3⟩ := w3
            exact ⟨d0, v0, y1, y2, RD.cut nt hf y3⟩
        · simp only [if_neg hf] at q1
          exact q1.elim
      | stuck =>
        rw [h2] at q1
        exact q1.elim
end
end Tp
/-! Tp5: operations on values by data. -/
namespace Tp
open PySem PySem.Spec PyProof.Rows L2
/-! ### arithmetic -/
def sm (i : Int) : Bool := decide (i.natAbs < 2 ^ 1000)
def addD : D → D → Option D
  | .int i, .int j => some (.int (i + j))
  | .str x, .str y => if x.length + y.length ≤ sizeLine then some (.str ⟨x.cps ++ y.cps⟩) else none
  | .tuple a, .tuple b => if a.length + b.length ≤ sizeLine then some (.tuple (a ++ b)) else none
  | .list a, .list b => if a.length + b.length ≤ sizeLine then some (.list (a ++ b)) else none
  | _, _ => none
def subD : D → D → Option D
  | .int i, .int j => some (.int (i - j))
  | _, _ => none
def mulI : D → D → Option D
  | .int i, .int j => if sm i && sm j then some (.int (i * j)) else none
  | _, _ => none
def divD : D → D → Option D
  | .int i, .int j => if j ≠ 0 ∧ sm j = true then some (.int (i.fdiv j)) else none
  | _, _ => none
def modD : D → D → Option D
  | .int i, .int j => if j ≠ 0 then some (.int (i.fmod j)) else none
  | _, _ => none
def powD : D → D → Option D
  | .int i, .int j => if 0 ≤ j ∧ j ≤ 100 ∧ i.natAbs < 2 ^ 64 then some (.int (i ^ j.toNat)) else none
  | _, _ => none
def negD : D → Option D
  | .int i => some (.int (-i))
  | _ => none
theorem sm_log {i : Int} (h : sm i = true) : i.natAbs.log2 < 1000 := PySem.Flt.log2_lt_of (by decide) (of_decide_eq_true h)
section
variable {X : Cx}
theorem op_fdivA : OpR X (binaryOp .FloorDiv) (rI (fun _ j => j ≠ 0 ∧ sm j = true) fun i j => .int (i.fdiv j)) := opI fun i j _ _ _ _ _ hc q =>
  floordiv_int hc.1 q (.inl (PyProof.noPylong_of_log2 (Nat.lt_trans (sm_log hc.2) (by decide))))
theorem op_mulA : OpR X (binaryOp .Mult) (rI (fun i j => sm i = true ∧ sm j = true) fun i j => .int (i * j)) := opI fun _ _ _ _ _ _ _ hc q => mul_int q (CMulW.ok (by
  have h1 := sm_log hc.1
  have h2 := sm_log hc.2
  show _ < 1000000
  omega))
end
/-- int in, int out -/
theorem op2I {K : Fg} {C : Int → Int → Prop} {g : Int → Int → Int} {f : D → D → Option D} (hf : ∀ d1 d2 d', f d1 d2 = some d' → ∃ i j, d1 = .int i ∧ d2 = .int j ∧ C i j ∧ d' = .int (g i j)) : Op2 K (rI C fun i j => .int (g i j)) f :=
  fun G H d1 d2 v1 v2 d' Q l r1 r2 e q => by
    obtain ⟨i, j, rfl, rfl, c, rfl⟩ := hf _ _ _ e
    exact ⟨i, j, r1.int, r2.int, c, q _ G H (Grow.refl l) (.int _)⟩
theorem op2_sub {K : Fg} : Op2 K (rI0 fun i j => .int (i - j)) subD := fun G H d1 d2 v1 v2 d' Q l r1 r2 e q => by
  cases d1 <;> cases d2 <;> first | (cases e; done) | skip
  cases e
  exact ⟨_, _, r1.int, r2.int, q _ G H (Grow.refl l) (.int _)⟩
theorem op2_mul {K : Fg} : Op2 K (rI (fun i j => sm i = true ∧ sm j = true) fun i j => .int (i * j)) mulI := op2I fun d1 d2 d' e => by
  cases d1 <;> cases d2 <;> first | (cases e; done) | skip
  rename_i i j
  simp only [mulI] at e
  split at e
  · rename_i h
    cases e
    exact ⟨i, j, rfl, rfl, by simpa using h, rfl⟩
  · cases e
theorem op2_div {K : Fg} : Op2 K (rI (fun _ j => j ≠ 0 ∧ sm j = true) fun i j => .int (i.fdiv j)) divD := op2I fun d1 d2 d' e => by
  cases d1 <;> cases d2 <;> first | (cases e; done) | skip
  rename_i i j
  simp only [divD] at e
  split at e
  · rename_i h
    cases e
    exact ⟨i, j, rfl, rfl, h, rfl⟩
  · cases e
theorem op2_mod {K : Fg} : Op2 K (rI (fun _ j => j ≠ 0) fun i j => .int (i.fmod j)) modD := op2I fun d1 d2 d' e => by
  cases d1 <;> cases d2 <;> first | (cases e; done) | skip
  rename_i i j
  simp only [modD] at e
  split at e
  · rename_i h
    cases e
    exact ⟨i, j, rfl, rfl, h, rfl⟩
  · cases e
theorem op2_pow {K : Fg} : Op2 K (rI CPow fun i j => .int (i ^ j.toNat)) powD := op2I fun d1 d2 d' e => by
  cases d1 <;> cases d2 <;> first | (cases e; done) | skip
  rename_i i j
  simp only [powD] at e
  split at e
  · rename_i h
    cases e
    exact ⟨i, j, rfl, rfl, ⟨h.1, Int.le_trans h.2.1 (by decide), h.2.2⟩, rfl⟩
  · cases e
theorem op1_neg {K : Fg} : Op1 K (rU fun i => .int (-i)) negD := fun G H d v d' Q l r e q => by
  cases d <;> first | (cases e; done) | skip
  cases e
  exact ⟨_, r.int, q _ G H (Grow.refl l) (.int _)⟩
/-! ### + of ints, texts, tuples, lists -/
theorem OpR.or {X : Cx} {f : Value → Value → Sem Value} {r r' : R2} (h : OpR X f r) (h' : OpR X f r') : OpR X f (fun x y H Q => r x y H Q ∨ r' x y H Q) := by
  intro pins s σ H x y v u Q I rx ry q
  rcases q with q | q
  · exact h pins s σ H x y v u Q I rx ry q
  · exact h' pins s σ H x y v u Q I rx ry q
theorem LsK.ok {X : Cx} {pins : List (Addr × Obj)} {σ : L2.St} {H : Hp} {s : Shared} {a : Addr} {xs : List V} (h : LsK X.K H a xs) (I : Inv X pins σ H s) : ∃ (its : List Value) (n : Nat), Vals xs its ∧ s.heap.get? a = some { cls := .type "list", data := .seq its.toArray n } := by
  rcases h with h | ⟨its, n, e, z, r⟩
  · obtain ⟨z, its, n, r, e⟩ := h.ok I.hok
    exact ⟨its, n, r, e⟩
  · exact ⟨its, n, r, I.kIn a _ e⟩
/-- list + list, however they are read -/
def rCatL (K : Fg) : R2 := fun x y H Q => ∃ l b xs zs, x = .ref l ∧ y = .ref b ∧ LsK K H l xs ∧ LsK K H b zs ∧ xs.length + zs.length ≤ sizeLine ∧ ∀ p, H p = none → Q (.ref p) (upd H p (.lst (xs ++ zs)))
theorem op_catL {X : Cx} : OpR X (binaryOp .Add) (rCatL X.K) := by
  intro pins s σ H x y v u Q I rx ry h
  obtain ⟨l, b, xs, zs, rfl, rfl, hH, hB, hz, q⟩ := h
  cases rx
  cases ry
  obtain ⟨its, n, r, e⟩ := hH.ok I
  obtain ⟨its2, n2, r2, e2⟩ := hB.ok I
  have hl := r.length
  have hl2 := r2.length
  refine PySem.P.add_list e e2 ?_ (by rw [List.size_toArray, List.size_toArray]; omega)
  have ea : its.toArray ++ its2.toArray = (its ++ its2).toArray := by simp
  rw [ea]
  exact ⟨.ref _, _, I.lnew (t' := s.toks) (r.append r2) (by rw [List.length_append]; omega), rfl, q _ I.fresh⟩
def rAddA (K : Fg) : R2 := fun x y H Q => rI0 (fun i j => .int (i + j)) x y H Q ∨ (∃ i j, x = .str i ∧ y = .str j ∧ i.length + j.length ≤ sizeLine ∧ Q (.str (i ++ j)) H) ∨ rCatA K x y H Q ∨ rCatL K x y H Q
theorem op_addA {X : Cx} : OpR X (binaryOp .Add) (rAddA X.K) := op_add.or (op_add_str.or (op_catA.or op_catL))
theorem op2_add {K : Fg} : Op2 K (rAddA K) addD := fun G H d1 d2 v1 v2 d' Q l r1 r2 e q => by
  cases d1 <;> cases d2 <;> first | (cases e; done) | skip
  · cases e
    exact .inl ⟨_, _, r1.int, r2.int, q _ G H (Grow.refl l) (.int _)⟩
  · rename_i x y
    simp only [addD] at e
    split at e
    · rename_i h
      cases e
      exact .inr (.inl ⟨x, y, r1.str, r2.str, h, q _ G H (Grow.refl l) (.str _)⟩)
    · cases e
  · rename_i xs ys
    simp only [addD] at e
    split at e
    · rename_i h
      cases e
      obtain ⟨a, vs, rfl, h1, h2⟩ := r1.list l
      obtain ⟨b, us, rfl, h3, h4⟩ := r2.list l
      have e1 := h2.length
      have e2 := h4.length
      refine .inr (.inr (.inr ⟨a, b, vs, us, rfl, rfl, h1, h3, by omega, fun p np => ?_⟩))
      have w := Grow.one l np (.lst (vs ++ us))
      exact q _ _ _ w (.lst (.inl (.inl upd_same)) ((h2.app h4).le w.g))
    · cases e
  · rename_i xs ys
    simp only [addD] at e
    split at e
    · rename_i h
      cases e
      obtain ⟨a, vs, rfl, h1, h2, k1⟩ := r1.tuple l
      obtain ⟨b, us, rfl, h3, h4, k2⟩ := r2.tuple l
      have e1 := h2.length
      have e2 := h4.length
      refine .inr (.inr (.inl ⟨a, b, vs, us, rfl, rfl, h1, h3, by omega, fun z => ?_, fun z1 z2 => ?_, fun z1 z2 p np => ?_⟩))
      · subst z
        cases h2
        exact q _ G H (Grow.refl l) k2
      · subst z2
        cases h4
        rw [List.append_nil] at q
        exact q _ G H (Grow.refl l) k1
      · have w := Grow.one l np (.tup (vs ++ us))
        exact q _ _ _ w (.tup (.inl (.inl upd_same)) ((h2.app h4).le w.g))
    · cases e
/-- two lists make a new one -/
def catD (d1 d2 : D) : Option D := match d1, d2 with
  | .list a, .list b => if a.length + b.length ≤ sizeLine then some (.list (a ++ b)) else none
  | _, _ => none
theorem sn_cat {T : ExcT} {X : Cx} {a b : Expr} {ma mb : M Opd} {pos : Pos} (ha : SO T X a ma) (hb : SO T X b mb) : SN T X (.BinOp a .Add b pos) (M.bind ma fun o1 => M.bind mb fun o2 => doOp2 catD o1 o2) := fun F tk =>
  PE.weak (pe_op op_catL (ha F tk) (hb F tk)) fun σ H Q ⟨e, G, s, q⟩ => by
  refine ⟨e, G, s, (AftN.bind q).mono fun v1 H1 ⟨o1, e1, G1, s1, l1, r1, q1⟩ => ?_⟩
  refine ⟨e1, G1, s1, (AftN.bind q1).mono fun v2 H2 ⟨o2, e2, G2, s2, l2, r2, q2⟩ => ?_⟩
  unfold doOp2 at q2
  cases h1 : resolve o1 e2 with
  | none => rw [h1] at q2; exact q2.elim
  | some d1 =>
    rw [h1] at q2
    cases h2 : resolve o2 e2 with
    | none => rw [h2] at q2; exact q2.elim
    | some d2 =>
      rw [h2] at q2
      simp only [Option.bind_some] at q2
      have b1 := s2.rb (rO.le l2 r1) h1
      have b2 := s2.rb r2 h2
      cases d1 <;> cases d2 <;> first | exact q2.elim | skip
      rename_i xs ys
      obtain ⟨p1, vs, rfl, k1, k2⟩ := b1.list s2.le
      obtain ⟨p2, us, rfl, k3, k4⟩ := b2.list s2.le
      have n1 := k2.length
      have n2 := k4.length
      by_cases hz : xs.length + ys.length ≤ sizeLine
      · simp only [catD, if_pos hz] at q2
        refine ⟨p1, p2, vs, us, rfl, rfl, k1, k3, by omega, fun p np => ?_⟩
        refine AftN.new (d := .list (xs ++ ys)) s2 np ⟨?_, vs ++ us, upd_same, k2.app k4⟩ q2
        cases z : G2 p with
        | none => rfl
        | some u => rw [s2.le p u z] at np; cases np
      · simp only [catD, if_neg hz] at q2
        exact q2.elim
/-! ### comparisons -/
theorem Dp.le {K : Fg} {G H : Hp} (l : LeG G H) : ∀ {v : V} {d : D}, Dp K G v d → Dp K H v d := by
  intro v d h
  refine Dp.rec (motive_1 := fun v d _ => Dp K H v d) (motive_2 := fun vs ds _ => DpAll K H vs ds) ?_ ?_ ?_ ?_ ?_ ?_ ?_ ?_ h
  · exact .non
  · exact fun b => .bl b
  · exact fun i => .int i
  · exact fun x => .str x
  · exact fun s _ ih => .lst (SqL.le l s) ih
  · exact fun s _ ih => .tup (SqT.le l s) ih
  · exact .nil
  · exact fun _ _ h1 h2 => .cons h1 h2
mutual
theorem RD.dp {K : Fg} {G : Hp} : ∀ {d : D} {v : V}, PyData.canLay0 d = true → RD K G d v → Dp K G v d
  | _, _, _, .non => .non
  | _, _, _, .bl b => .bl b
  | _, _, _, .int i => .int i
  | _, _, _, .str x => .str x
  | _, _, c, .lst s r => .lst s.sq (RDs.dp (by simpa [PyData.canLay0] using c) r)
  | _, _, c, .tup s r => .tup s (RDs.dp (by simpa [PyData.canLay0] using c) r)
  | _, _, c, .dK _ _ _ => by simp [PyData.canLay0] at c
  | _, _, c, .dT _ _ _ => by simp [PyData.canLay0] at c
  | _, _, c, .ins _ _ _ _ => by simp [PyData.canLay0, instD] at c
theorem RDs.dp {K : Fg} {G : Hp} : ∀ {ds : List D} {vs : List V}, PyData.canLayAll0 ds = true → RDs K G ds vs → DpAll K G vs ds
  | _, _, _, .nil => .nil
  | _, _, c, .cons a b => by
    rw [PyData.canLayAll0, Bool.and_eq_true] at c
    exact .cons (RD.dp c.1 a) (RDs.dp c.2 b)
end
theorem DpAll.le {K : Fg} {G H : Hp} (l : LeG G H) : ∀ {vs : List V} {ds : List D}, DpAll K G vs ds → DpAll K H vs ds
  | _, _, .nil => .nil
  | _, _, .cons a b => .cons (Dp.le l a) (DpAll.le l b)
theorem shaped_lay {d : D} (h : SeqAt.shaped d = true) : PyData.canLay0 d = true := by
  unfold SeqAt.shaped at h
  rw [Bool.and_eq_true] at h
  exact h.1
theorem RB.dp {K : Fg} {G H : Hp} {d : D} {v : V} (l : LeG G H) (c : SeqAt.shaped d = true) (h : RB K G H d v) : Dp K H v d := by
  have c' := shaped_lay c
  rcases h with h | ⟨a, rfl, o⟩
  · exact Dp.le l (RD.dp c' h)
  · cases d with
    | list ds =>
      obtain ⟨_, vs, h1, r⟩ := o
      exact .lst (.inl (.inl h1)) (DpAll.le l (RDs.dp (by simpa [PyData.canLay0] using c') r))
    | dict kvs => simp [PyData.canLay0] at c'
    | _ => exact o.elim
def eqD (d1 d2 : D) : Option D := if SeqAt.shaped d1 = true ∧ SeqAt.shaped d2 = true then some (.bool (PyData.eqv d1 d2)) else none
def neD (d1 d2 : D) : Option D := if SeqAt.shaped d1 = true ∧ SeqAt.shaped d2 = true then some (.bool (!PyData.eqv d1 d2)) else none
def cmpI (p : Int → Int → Bool) : D → D → Option D
  | .int i, .int j => some (.bool (p i j))
  | _, _ => none
def isND (d1 d2 : D) : Option D := match d2 with | .none => some (.bool (match d1 with | .none => true | _ => false)) | _ => none
def notND (d1 d2 : D) : Option D := match d2 with | .none => some (.bool (match d1 with | .none => false | _ => true)) | _ => none
theorem op2_eq {K : Fg} : Op2 K (rEqD K) eqD := fun G H d1 d2 v1 v2 d' Q l r1 r2 e q => by
  simp only [eqD] at e
  split at e
  · rename_i h
    cases e
    exact ⟨d1, d2, r1.dp l h.1, r2.dp l h.2, h.1, h.2, q _ G H (Grow.refl l) (.bl _)⟩
  · cases e
theorem op2_ne {K : Fg} : Op2 K (rNeD K) neD := fun G H d1 d2 v1 v2 d' Q l r1 r2 e q => by
  simp only [neD] at e
  split at e
  · rename_i h
    cases e
    exact ⟨d1, d2, r1.dp l h.1, r2.dp l h.2, h.1, h.2, q _ G H (Grow.refl l) (.bl _)⟩
  · cases e
theorem op2_cmpI {K : Fg} {p : Int → Int → Bool} : Op2 K (rI0 fun i j => .bl (p i j)) (cmpI p) := fun G H d1 d2 v1 v2 d' Q l r1 r2 e q => by
  cases d1 <;> cases d2 <;> first | (cases e; done) | skip
  cases e
  exact ⟨_, _, r1.int, r2.int, q _ G H (Grow.refl l) (.bl _)⟩
theorem RB.non_iff {K : Fg} {G H : Hp} {d : D} {v : V} (h : RB K G H d v) : (v = .non ↔ d = .none) := by
  constructor
  · rintro rfl
    rcases h with h | ⟨a, z, _⟩
    · cases h; rfl
    · cases z
  · rintro rfl
    exact h.none
theorem op2_isN {K : Fg} : Op2 K (fun x y H Q => y = V.non ∧ Q (.bl (decide (x = .non))) H) isND := fun G H d1 d2 v1 v2 d' Q l r1 r2 e q => by
  cases d2 <;> first | (cases e; done) | skip
  refine ⟨r2.none, ?_⟩
  have k := r1.non_iff
  cases d1 <;> (cases e; first | (rw [decide_eq_true (k.mpr rfl)]; exact q _ G H (Grow.refl l) (.bl _)) | (rw [decide_eq_false (fun z => nomatch k.mp z)]; exact q _ G H (Grow.refl l) (.bl _)))
theorem op2_notN {K : Fg} : Op2 K (fun x y H Q => y = V.non ∧ Q (.bl (!decide (x = .non))) H) notND := fun G H d1 d2 v1 v2 d' Q l r1 r2 e q => by
  cases d2 <;> first | (cases e; done) | skip
  refine ⟨r2.none, ?_⟩
  have k := r1.non_iff
  cases d1 <;> (cases e; first | (rw [decide_eq_true (k.mpr rfl)]; exact q _ G H (Grow.refl l) (.bl _)) | (rw [decide_eq_false (fun z => nomatch k.mp z)]; exact q _ G H (Grow.refl l) (.bl _)))
/-- x in y: a list, a tuple -/
def inD (d1 d2 : D) : Option D := match d2 with
  | .list ds => if SeqAt.shaped d1 = true ∧ SeqAt.shaped (.list ds) = true then some (.bool (ds.any fun z => PyData.eqv z d1)) else none
  | .tuple ds => if SeqAt.shaped d1 = true ∧ SeqAt.shaped (.tuple ds) = true then some (.bool (ds.any fun z => PyData.eqv z d1)) else none
  | .str y => match d1 with
    | .str x => match x.cps.toList with | [c] => some (.bool (decide (c ∈ y.cps.toList))) | _ => none
    | _ => none
  | _ => none
def notInD (d1 d2 : D) : Option D := match inD d1 d2 with | some (.bool b) => some (.bool !b) | _ => none
def rInT (K : Fg) : R2 := fun x y H Q => ∃ d ds, Dp K H x d ∧ Dp K H y (.tuple ds) ∧ SeqAt.shaped d = true ∧ SeqAt.shaped (.tuple ds) = true ∧ Q (.bl (ds.any fun z => PyData.eqv z d)) H
def rNotInT (K : Fg) : R2 := fun x y H Q => ∃ d ds, Dp K H x d ∧ Dp K H y (.tuple ds) ∧ SeqAt.shaped d = true ∧ SeqAt.shaped (.tuple ds) = true ∧ Q (.bl (!ds.any fun z => PyData.eqv z d)) H
section
variable {X : Cx}
theorem op_inT (hu : X.A.units + 65 < cLine) : OpR X (compareOp .In) (rInT X.K) := by
  intro pins s σ H x y v u Q I rx ry h
  obtain ⟨d, ds, hd, he, sd, se, q⟩ := h
  obtain ⟨as, r1⟩ := Dp.reads I d x v hd rx
  obtain ⟨bs, r2⟩ := Dp.reads I (.tuple ds) y u he ry
  exact SeqAt.in_tuple_reads r2 r1 (SeqAt.canLay_of_shaped se) (SeqAt.canLay_of_shaped sd) (room_in_shaped sd hu) ⟨.bl _, H, I, rfl, q⟩
theorem op_notInT (hu : X.A.units + 65 < cLine) : OpR X (compareOp .NotIn) (rNotInT X.K) := by
  intro pins s σ H x y v u Q I rx ry h
  obtain ⟨d, ds, hd, he, sd, se, q⟩ := h
  obtain ⟨as, r1⟩ := Dp.reads I d x v hd rx
  obtain ⟨bs, r2⟩ := Dp.reads I (.tuple ds) y u he ry
  exact SeqAt.notIn_tuple_reads r2 r1 (SeqAt.canLay_of_shaped se) (SeqAt.canLay_of_shaped sd) (room_in_shaped sd hu) ⟨.bl _, H, I, rfl, q⟩
def rInA (K : Fg) : R2 := fun x y H Q => rInD K x y H Q ∨ rInT K x y H Q ∨ ∃ (c : Nat) (z : Str), x = .str ⟨#[c]⟩ ∧ y = .str z ∧ Q (.bl (decide (c ∈ z.cps.toList))) H
def rNotInA (K : Fg) : R2 := fun x y H Q => rNotInD K x y H Q ∨ rNotInT K x y H Q ∨ ∃ (c : Nat) (z : Str), x = .str ⟨#[c]⟩ ∧ y = .str z ∧ Q (.bl (!decide (c ∈ z.cps.toList))) H
theorem op_inA (hu : X.A.units + 65 < cLine) : OpR X (compareOp .In) (rInA X.K) := (op_inD hu).or ((op_inT hu).or op_in_sign)
theorem op_notInA (hu : X.A.units + 65 < cLine) : OpR X (compareOp .NotIn) (rNotInA X.K) := (op_notInD hu).or ((op_notInT hu).or op_notIn_sign)
end
theorem inD_cases {d1 d2 d' : D} (e : inD d1 d2 = some d') : ∃ b, d' = .bool b ∧
    ((∃ ds, d2 = .list ds ∧ SeqAt.shaped d1 = true ∧ SeqAt.shaped (.list ds) = true ∧ b = ds.any fun z => PyData.eqv z d1) ∨ (∃ ds, d2 = .tuple ds ∧ SeqAt.shaped d1 = true ∧ SeqAt.shaped (.tuple ds) = true ∧ b = ds.any fun z => PyData.eqv z d1) ∨
      ∃ (c : Nat) (y : Str), d1 = .str ⟨#[c]⟩ ∧ d2 = .str y ∧ b = decide (c ∈ y.cps.toList)) := by
  cases d2 <;> simp only [inD] at e
  case list ds =>
    split at e
    · rename_i h
      cases e
      exact ⟨_, rfl, .inl ⟨ds, rfl, h.1, h.2, rfl⟩⟩
    · cases e
  case tuple ds =>
    split at e
    · rename_i h
      cases e
      exact ⟨_, rfl, .inr (.inl ⟨ds, rfl, h.1, h.2, rfl⟩)⟩
    · cases e
  case str y =>
    cases d1 <;> simp only at e
    case str x =>
      split at e
      · rename_i c hx
        cases e
        refine ⟨_, rfl, .inr (.inr ⟨c, y, ?_, rfl, rfl⟩)⟩
        obtain ⟨cps⟩ := x
        have : cps = #[c] := by
          apply Array.toList_inj.mp
          exact hx
        rw [this]
      · cases e
    all_goals cases e
  all_goals cases e
theorem op2_in {K : Fg} : Op2 K (rInA K) inD := fun G H d1 d2 v1 v2 d' Q l r1 r2 e q => by
  obtain ⟨b, rfl, ⟨ds, rfl, h1, h2, rfl⟩ | ⟨ds, rfl, h1, h2, rfl⟩ | ⟨c, y, rfl, rfl, rfl⟩⟩ := inD_cases e
  · exact .inl ⟨d1, ds, r1.dp l h1, r2.dp l h2, h1, h2, q _ G H (Grow.refl l) (.bl _)⟩
  · exact .inr (.inl ⟨d1, ds, r1.dp l h1, r2.dp l h2, h1, h2, q _ G H (Grow.refl l) (.bl _)⟩)
  · exact .inr (.inr ⟨c, y, r1.str, r2.str, q _ G H (Grow.refl l) (.bl _)⟩)
theorem op2_notIn {K : Fg} : Op2 K (rNotInA K) notInD := fun G H d1 d2 v1 v2 d' Q l r1 r2 e q => by
  simp only [notInD] at e
  split at e
  · rename_i b0 hb
    cases e
    obtain ⟨b, e1, h⟩ := inD_cases hb
    cases e1
    rcases h with ⟨ds, rfl, h1, h2, rfl⟩ | ⟨ds, rfl, h1, h2, rfl⟩ | ⟨c, y, rfl, rfl, rfl⟩
    · exact .inl ⟨d1, ds, r1.dp l h1, r2.dp l h2, h1, h2, q _ G H (Grow.refl l) (.bl _)⟩
    · exact .inr (.inl ⟨d1, ds, r1.dp l h1, r2.dp l h2, h1, h2, q _ G H (Grow.refl l) (.bl _)⟩)
    · exact .inr (.inr ⟨c, y, r1.str, r2.str, q _ G H (Grow.refl l) (.bl _)⟩)
  · cases e
end Tp
/-! Tp6: built-in functions, subscripts, slices. -/
namespace Tp
open PySem PySem.Spec PyProof.Rows L2
def intsOf : List D → Option (List Int)
  | [] => some []
  | .int i :: ds => (intsOf ds).map (i :: ·)
  | _ :: _ => none
def boolsOf : List D → Option (List Bool)
  | [] => some []
  | .bool i :: ds => (boolsOf ds).map (i :: ·)
  | _ :: _ => none
theorem intsOf_vals {K : Fg} {G : Hp} : ∀ {ds : List D} {vs : List V} {ns : List Int}, intsOf ds = some ns → RDs K G ds vs → vs = ns.map V.int
  | [], _, ns, h, .nil => by cases h; rfl
  | .int i :: ds, _, ns, h, .cons a b => by
    rw [intsOf] at h
    cases h1 : intsOf ds with
    | none => rw [h1] at h; cases h
    | some ms =>
      rw [h1] at h
      cases h
      cases a
      rw [intsOf_vals h1 b]
      rfl
theorem boolsOf_vals {K : Fg} {G : Hp} : ∀ {ds : List D} {vs : List V} {ns : List Bool}, boolsOf ds = some ns → RDs K G ds vs → vs = ns.map V.bl
  | [], _, ns, h, .nil => by cases h; rfl
  | .bool i :: ds, _, ns, h, .cons a b => by
    rw [boolsOf] at h
    cases h1 : boolsOf ds with
    | none => rw [h1] at h; cases h
    | some ms =>
      rw [h1] at h
      cases h
      cases a
      rw [boolsOf_vals h1 b]
      rfl
/-! ### the built-ins -/
def maxL (n : Int) (ns : List Int) : Int := ns.foldl max n
def minL (n : Int) (ns : List Int) : Int := ns.foldl min n
def lenD : List D → Option D
  | [.list ds] => some (.int ds.length)
  | [.tuple ds] => some (.int ds.length)
  | [.str x] => if x.length ≤ sizeLine then some (.int x.length) else none
  | _ => none
def absD : List D → Option D
  | [.int i] => some (.int (if i < 0 then -i else i))
  | _ => none
def intD : List D → Option D
  | [.int i] => some (.int i)
  | [.bool b] => some (.int (if b then 1 else 0))
  | _ => none
def strD : List D → Option D
  | [.int i] => if i.natAbs.log2 < 1920 then some (.str (toString i)) else none
  | _ => none
def maxD : List D → Option D
  | [.int i, .int j] => some (.int (if j > i then j else i))
  | [.list ds] => match intsOf ds with | some (n :: ns) => some (.int (maxL n ns)) | _ => none
  | _ => none
def minD : List D → Option D
  | [.int i, .int j] => some (.int (if j < i then j else i))
  | [.list ds] => match intsOf ds with | some (n :: ns) => some (.int (minL n ns)) | _ => none
  | _ => none
def sumD : List D → Option D
  | [.list ds] => (intsOf ds).map fun ns => .int ns.sum
  | _ => none
def allD : List D → Option D
  | [.list ds] => (boolsOf ds).map fun bs => .bool (bs.all id)
  | _ => none
def tupleD : List D → Option D
  | [.list ds] => some (.tuple ds)
  | [.tuple ds] => some (.tuple ds)
  | _ => none
def listD : List D → Option D
  | [.list ds] => some (.list ds)
  | [.tuple ds] => some (.list ds)
  | _ => none
theorem foldl_max_mem : ∀ (ns : List Int) (n : Int), ns.foldl max n = n ∨ ns.foldl max n ∈ ns
  | [], n => .inl rfl
  | m :: ns, n => by
    rw [List.foldl_cons]
    rcases foldl_max_mem ns (max n m) with h | h
    · rw [h]
      by_cases hc : n ≤ m
      · rw [Int.max_eq_right hc]; exact .inr List.mem_cons_self
      · rw [Int.max_eq_left (by omega)]; exact .inl rfl
    · exact .inr (List.mem_cons_of_mem _ h)
theorem foldl_max_le : ∀ (ns : List Int) (n : Int), n ≤ ns.foldl max n ∧ ∀ y ∈ ns, y ≤ ns.foldl max n
  | [], n => ⟨Int.le_refl _, fun y h => by cases h⟩
  | m :: ns, n => by
    rw [List.foldl_cons]
    obtain ⟨h1, h2⟩ := foldl_max_le ns (max n m)
    refine ⟨by omega, fun y hy => ?_⟩
    rcases List.mem_cons.mp hy with rfl | hy
    · omega
    · exact h2 y hy
theorem foldl_min_mem : ∀ (ns : List Int) (n : Int), ns.foldl min n = n ∨ ns.foldl min n ∈ ns
  | [], n => .inl rfl
  | m :: ns, n => by
    rw [List.foldl_cons]
    rcases foldl_min_mem ns (min n m) with h | h
    · rw [h]
      by_cases hc : n ≤ m
      · rw [Int.min_eq_left hc]; exact .inl rfl
      · rw [Int.min_eq_right (by omega)]; exact .inr List.mem_cons_self
    · exact .inr (List.mem_cons_of_mem _ h)
theorem foldl_min_le : ∀ (ns : List Int) (n : Int), ns.foldl min n ≤ n ∧ ∀ y ∈ ns, ns.foldl min n ≤ y
  | [], n => ⟨Int.le_refl _, fun y h => by cases h⟩
  | m :: ns, n => by
    rw [List.foldl_cons]
    obtain ⟨h1, h2⟩ := foldl_min_le ns (min n m)
    refine ⟨by omega, fun y hy => ?_⟩
    rcases List.mem_cons.mp hy with rfl | hy
    · omega
    · exact h2 y hy
theorem CallR.or' {X : Cx} {f : Value} {r r' : List V → Hp → VK → Prop} (h : CallR X f r) (h' : CallR X f r') : CallR X f (fun xs H Q => r xs H Q ∨ r' xs H Q) := h.or h'
theorem RBs.one {K : Fg} {G H : Hp} {d : D} {vs : List V} (h : RBs K G H [d] vs) : ∃ v, vs = [v] ∧ RB K G H d v := by
  cases h with
  | cons a b => cases b; exact ⟨_, rfl, a⟩
theorem RBs.two {K : Fg} {G H : Hp} {d1 d2 : D} {vs : List V} (h : RBs K G H [d1, d2] vs) : ∃ v1 v2, vs = [v1, v2] ∧ RB K G H d1 v1 ∧ RB K G H d2 v2 := by
  cases h with
  | cons a b =>
    obtain ⟨v, rfl, h⟩ := b.one
    exact ⟨_, _, rfl, a, h⟩
section
variable {K : Fg}
def rLenA (K : Fg) : List V → Hp → VK → Prop := fun xs H Q => (∃ p ys, xs = [.ref p] ∧ (SqL K H p ys ∨ SqT K H p ys) ∧ Q (.int ys.length) H) ∨ ∃ z, xs = [.str z] ∧ z.length ≤ sizeLine ∧ Q (.int z.length) H
theorem call_lenA {X : Cx} : CallR X (.builtin "len") (rLenA X.K) := call_len_seq.or call_len_str
theorem opN_len : OpN K (rLenA K) lenD := fun G H ds vs d' Q l r e q => by
  unfold lenD at e
  split at e
  · cases e
    obtain ⟨v, rfl, rr⟩ := r.one
    obtain ⟨a, xs, rfl, h1, h2⟩ := rr.list l
    refine .inl ⟨a, xs, rfl, .inl h1.sq, ?_⟩
    rw [← h2.length]
    exact q _ G H (Grow.refl l) (.int _)
  · cases e
    obtain ⟨v, rfl, rr⟩ := r.one
    obtain ⟨a, xs, rfl, h1, h2, _⟩ := rr.tuple l
    refine .inl ⟨a, xs, rfl, .inr h1, ?_⟩
    rw [← h2.length]
    exact q _ G H (Grow.refl l) (.int _)
  · split at e
    · rename_i h
      cases e
      obtain ⟨v, rfl, rr⟩ := r.one
      exact .inr ⟨_, by rw [rr.str], h, q _ G H (Grow.refl l) (.int _)⟩
    · cases e
  · cases e
theorem opN_abs : OpN K (fun xs H Q => ∃ i, xs = [V.int i] ∧ Q (.int (if i < 0 then -i else i)) H) absD := fun G H ds vs d' Q l r e q => by
  unfold absD at e
  split at e
  · cases e
    obtain ⟨v, rfl, rr⟩ := r.one
    exact ⟨_, by rw [rr.int], q _ G H (Grow.refl l) (.int _)⟩
  · cases e
theorem opN_int : OpN K (fun xs H Q => (∃ i, xs = [V.int i] ∧ Q (.int i) H) ∨ ∃ k, xs = [V.bl k] ∧ Q (.int (if k then 1 else 0)) H) intD := fun G H ds vs d' Q l r e q => by
  unfold intD at e
  split at e
  · cases e
    obtain ⟨v, rfl, rr⟩ := r.one
    exact .inl ⟨_, by rw [rr.int], q _ G H (Grow.refl l) (.int _)⟩
  · cases e
    obtain ⟨v, rfl, rr⟩ := r.one
    exact .inr ⟨_, by rw [rr.bool], q _ G H (Grow.refl l) (.int _)⟩
  · cases e
theorem opN_str : OpN K (fun xs H Q => ∃ i, xs = [V.int i] ∧ i.natAbs.log2 < 1920 ∧ Q (.str (toString i)) H) strD := fun G H ds vs d' Q l r e q => by
  unfold strD at e
  split at e
  · split at e
    · rename_i h
      cases e
      obtain ⟨v, rfl, rr⟩ := r.one
      exact ⟨_, by rw [rr.int], h, q _ G H (Grow.refl l) (.str _)⟩
    · cases e
  · cases e
def rMaxA (K : Fg) : List V → Hp → VK → Prop := fun xs H Q => (∃ i j, xs = [V.int i, .int j] ∧ Q (.int (if j > i then j else i)) H) ∨ rMax K xs H Q
def rMinA (K : Fg) : List V → Hp → VK → Prop := fun xs H Q => (∃ i j, xs = [V.int i, .int j] ∧ Q (.int (if j < i then j else i)) H) ∨ rMin K xs H Q
theorem call_maxA {X : Cx} (hc : X.calm = true) : CallR X (.builtin "max") (rMaxA X.K) := (call_max2 hc).or (cr_max hc)
theorem call_minA {X : Cx} (hc : X.calm = true) : CallR X (.builtin "min") (rMinA X.K) := (call_min2 hc).or (cr_min hc)
theorem opN_max : OpN K (rMaxA K) maxD := fun G H ds vs d' Q l r e q => by
  unfold maxD at e
  split at e
  · cases e
    obtain ⟨v, w, rfl, r1, r2⟩ := r.two
    exact .inl ⟨_, _, by rw [r1.int, r2.int], q _ G H (Grow.refl l) (.int _)⟩
  · split at e
    · rename_i n ns hi
      cases e
      obtain ⟨v, rfl, rr⟩ := r.one
      obtain ⟨a, xs, rfl, h1, h2⟩ := rr.list l
      have ev := intsOf_vals hi h2
      subst ev
      refine .inr ⟨a, _, rfl, h1.sq, by simp, fun m hm hle => ?_⟩
      have e : m = maxL n ns := by
        obtain ⟨k1, k2⟩ := foldl_max_le ns n
        have k3 : maxL n ns ∈ n :: ns := by
          rcases foldl_max_mem ns n with z | z
          · show ns.foldl max n ∈ n :: ns
            rw [z]; exact List.mem_cons_self
          · exact List.mem_cons_of_mem _ z
        have k4 := hle _ k3
        have k5 : m ≤ maxL n ns := by
          rcases List.mem_cons.mp hm with rfl | hm
          · exact k1
          · exact k2 m hm
        omega
      rw [e]
      exact q _ G H (Grow.refl l) (.int _)
    · cases e
  · cases e
theorem opN_min : OpN K (rMinA K) minD := fun G H ds vs d' Q l r e q => by
  unfold minD at e
  split at e
  · cases e
    obtain ⟨v, w, rfl, r1, r2⟩ := r.two
    exact .inl ⟨_, _, by rw [r1.int, r2.int], q _ G H (Grow.refl l) (.int _)⟩
  · split at e
    · rename_i n ns hi
      cases e
      obtain ⟨v, rfl, rr⟩ := r.one
      obtain ⟨a, xs, rfl, h1, h2⟩ := rr.list l
      have ev := intsOf_vals hi h2
      subst ev
      refine .inr ⟨a, _, rfl, h1.sq, by simp, fun m hm hle => ?_⟩
      have e : m = minL n ns := by
        obtain ⟨k1, k2⟩ := foldl_min_le ns n
        have k3 : minL n ns ∈ n :: ns := by
          rcases foldl_min_mem ns n with z | z
          · show ns.foldl min n ∈ n :: ns
            rw [z]; exact List.mem_cons_self
          · exact List.mem_cons_of_mem _ z
        have k4 := hle _ k3
        have k5 : minL n ns ≤ m := by
          rcases List.mem_cons.mp hm with rfl | hm
          · exact k1
          · exact k2 m hm
        omega
      rw [e]
      exact q _ G H (Grow.refl l) (.int _)
    · cases e
  · cases e
theorem opN_sum : OpN K (rSum K) sumD := fun G H ds vs d' Q l r e q => by
  unfold sumD at e
  split at e
  · rename_i ds
    cases hi : intsOf ds with
    | none => rw [hi] at e; cases e
    | some ns =>
      rw [hi] at e
      cases e
      obtain ⟨v, rfl, rr⟩ := r.one
      obtain ⟨a, xs, rfl, h1, h2⟩ := rr.list l
      have ev := intsOf_vals hi h2
      subst ev
      exact ⟨a, _, rfl, h1.sq, q _ G H (Grow.refl l) (.int _)⟩
  · cases e
theorem opN_all : OpN K (rAll K) allD := fun G H ds vs d' Q l r e q => by
  unfold allD at e
  split at e
  · rename_i ds
    cases hi : boolsOf ds with
    | none => rw [hi] at e; cases e
    | some ns =>
      rw [hi] at e
      cases e
      obtain ⟨v, rfl, rr⟩ := r.one
      obtain ⟨a, xs, rfl, h1, h2⟩ := rr.list l
      have ev := boolsOf_vals hi h2
      subst ev
      exact ⟨a, _, rfl, h1.sq, q _ G H (Grow.refl l) (.bl _)⟩
  · cases e
def rTupleOf (K : Fg) : List V → Hp → VK → Prop := fun xs H Q => ∃ p ys, xs = [V.ref p] ∧ ((SqL K H p ys ∧ ∀ l, H l = none → Q (.ref l) (upd H l (.tup ys))) ∨ (SqT K H p ys ∧ Q (.ref p) H))
def rListOf (K : Fg) : List V → Hp → VK → Prop := fun xs H Q => ∃ p ys, xs = [V.ref p] ∧ (SqL K H p ys ∨ SqT K H p ys) ∧ ∀ l, H l = none → Q (.ref l) (upd H l (.lst ys))
theorem opN_tuple : OpN K (rTupleOf K) tupleD := fun G H ds vs d' Q l r e q => by
  unfold tupleD at e
  split at e
  · cases e
    obtain ⟨v, rfl, rr⟩ := r.one
    obtain ⟨a, xs, rfl, h1, h2⟩ := rr.list l
    refine ⟨a, xs, rfl, .inl ⟨h1.sq, fun p np => ?_⟩⟩
    have w := Grow.one l np (.tup xs)
    exact q _ _ _ w (.tup (.inl (.inl upd_same)) (h2.le w.g))
  · cases e
    obtain ⟨v, rfl, rr⟩ := r.one
    obtain ⟨a, xs, rfl, h1, h2, k⟩ := rr.tuple l
    exact ⟨a, xs, rfl, .inr ⟨h1, q _ G H (Grow.refl l) k⟩⟩
  · cases e
theorem opN_list : OpN K (rListOf K) listD := fun G H ds vs d' Q l r e q => by
  unfold listD at e
  split at e
  · cases e
    obtain ⟨v, rfl, rr⟩ := r.one
    obtain ⟨a, xs, rfl, h1, h2⟩ := rr.list l
    refine ⟨a, xs, rfl, .inl h1.sq, fun p np => ?_⟩
    have w := Grow.one l np (.lst xs)
    exact q _ _ _ w (.lst (.inl (.inl upd_same)) (h2.le w.g))
  · cases e
    obtain ⟨v, rfl, rr⟩ := r.one
    obtain ⟨a, xs, rfl, h1, h2, k⟩ := rr.tuple l
    refine ⟨a, xs, rfl, .inr h1, fun p np => ?_⟩
    have w := Grow.one l np (.lst xs)
    exact q _ _ _ w (.lst (.inl (.inl upd_same)) (h2.le w.g))
  · cases e
end
section
variable {T : ExcT} {X : Cx} {x : Str} {id : String} {r : List V → Hp → VK → Prop} {f : List D → Option D} {es : List Expr} {ms : M (List Opd)} {p pos : Pos}
theorem se_callB (hc : CallR X (.builtin id) r) (op : OpN X.K r f) (ha : SA T X es ms) (hg : Gl X x) (hm : X.mg x = none) (hv : bootBuiltins x = some (.builtin id)) (hn : x ≠ "__name__") (hdb : (x == ("__debug__" : Str)) = false)
    (hs : es.all notStar = true) (hne : es ≠ []) : SE T X (.Call (.Name x p) es [] pos) (M.bind ms (doOpN f)) := fun F tk => by
  cases es with
  | nil => exact absurd rfl hne
  | cons e es =>
    have h' : notStar e = true ∧ es.all notStar = true := by simpa using hs
    refine PE.weak (pe_callB hc hg hm hv (ha F tk) hn hdb (star_cons h'.1) (star_none h'.2)) fun σ H Q ⟨e, G, s, q⟩ => ?_
    refine ⟨e, G, s, (Aft.bind q).mono fun vs H1 ⟨os, e1, G1, s1, l1, r1, q1⟩ => ?_⟩
    exact aft_opN op s1 r1 q1
theorem se_callTy (hc : CallR X (.type id) r) (op : OpN X.K r f) (ha : SA T X es ms) (hg : Gl X x) (hm : X.mg x = none) (hv : bootBuiltins x = some (.type id)) (hn : x ≠ "__name__") (hdb : (x == ("__debug__" : Str)) = false)
    (hs : es.all notStar = true) (hne : es ≠ []) : SE T X (.Call (.Name x p) es [] pos) (M.bind ms (doOpN f)) := fun F tk => by
  cases es with
  | nil => exact absurd rfl hne
  | cons e es =>
    have h' : notStar e = true ∧ es.all notStar = true := by simpa using hs
    refine PE.weak (pe_callTy hc hg hm hv (ha F tk) hn hdb (star_cons h'.1) (star_none h'.2)) fun σ H Q ⟨e, G, s, q⟩ => ?_
    refine ⟨e, G, s, (Aft.bind q).mono fun vs H1 ⟨os, e1, G1, s1, l1, r1, q1⟩ => ?_⟩
    exact aft_opN op s1 r1 q1
end
/-! ### subscripts, slices -/
def ixD (d1 d2 : D) : Option D := match d2 with
  | .int i => match d1 with
    | .list ds => atI ds i
    | .tuple ds => atI ds i
    | .str z => if z.length ≤ sizeLine then (atI z.cps.toList i).map fun c => .str ⟨#[c]⟩ else none
    | _ => none
  | _ => none
theorem RDs.atI {K : Fg} {G : Hp} {ds : List D} {vs : List V} {i : Int} {d : D} (r : RDs K G ds vs) (h : L2.atI ds i = some d) : ∃ v, L2.atI vs i = some v ∧ RD K G d v := by
  unfold L2.atI at h ⊢
  rw [← r.length]
  cases z : ixN ds.length i with
  | none => rw [z] at h; cases h
  | some j =>
    rw [z] at h
    exact r.get h
theorem op2_ix {K : Fg} : Op2 K (rIx K) ixD := fun G H d1 d2 v1 v2 d' Q l r1 r2 e q => by
  unfold ixD at e
  split at e
  · rename_i i
    split at e
    · obtain ⟨a, xs, rfl, h1, h2⟩ := r1.list l
      obtain ⟨v, k1, k2⟩ := h2.atI e
      exact .inl ⟨a, xs, i, v, rfl, r2.int, h1.sq, k1, q _ G H (Grow.refl l) k2⟩
    · obtain ⟨a, xs, rfl, h1, h2, _⟩ := r1.tuple l
      obtain ⟨v, k1, k2⟩ := h2.atI e
      exact .inr (.inl ⟨a, xs, i, v, rfl, r2.int, h1, k1, q _ G H (Grow.refl l) k2⟩)
    · rename_i z
      split at e
      · rename_i hz
        cases hc : atI z.cps.toList i with
        | none => rw [hc] at e; cases e
        | some c =>
          rw [hc] at e
          cases e
          exact .inr (.inr ⟨z, i, c, r1.str, r2.int, hz, hc, q _ G H (Grow.refl l) (.str _)⟩)
      · cases e
    · cases e
  · cases e
def notSlice : Expr → Bool
  | .Slice .. => false
  | _ => true
theorem plainIx_of {b : Expr} (h : notSlice b = true) : PlainIx b := fun v u => by
  cases b <;> first | rfl | cases h
theorem se_ix {T : ExcT} {X : Cx} {a b : Expr} {ma mb : M Opd} {pos : Pos} (ha : SO T X a ma) (hb : SO T X b mb) (hs : notSlice b = true) :
    SE T X (.Subscript a b pos) (M.bind ma fun o1 => M.bind mb fun o2 => doOp2 ixD o1 o2) := fun F tk => PE.weak (pe_ix ix_seq (ha F tk) (hb F tk) (plainIx_of hs)) fun σ H Q ⟨e, G, s, q⟩ => by
  refine ⟨e, G, s, (Aft.bind q).mono fun v1 H1 ⟨o1, e1, G1, s1, l1, r1, q1⟩ => ?_⟩
  refine ⟨e1, G1, s1, (Aft.bind q1).mono fun v2 H2 ⟨o2, e2, G2, s2, l2, r2, q2⟩ => ?_⟩
  exact aft_op2 op2_ix s2 (rO.le l2 r1) r2 q2
def cutD (ds : List D) (lo hi : Option Int) : List D := (ds.drop (HT.sIx ds.length 0 lo)).take (HT.sIx ds.length ds.length hi - HT.sIx ds.length 0 lo)
def slcD (d : D) (lo hi : Option Int) : Option D := match d with
  | .list ds => some (.list (cutD ds lo hi))
  | .tuple ds => some (.tuple (cutD ds lo hi))
  | .str z => if z.length ≤ sizeLine then some (.str (cutS z lo hi)) else none
  | _ => none
theorem RDs.cutD {K : Fg} {G : Hp} {ds : List D} {vs : List V} (r : RDs K G ds vs) (lo hi : Option Int) : RDs K G (Tp.cutD ds lo hi) (cutV vs lo hi) := by
  unfold Tp.cutD cutV
  rw [← r.length]
  exact RDs.take _ (RDs.drop _ r)
def rSlAny (K : Fg) : V → Option Int → Option Int → Hp → VK → Prop := fun x lo hi H Q => rSlL K x lo hi H Q ∨ rSlA K x lo hi H Q ∨ rSlS x lo hi H Q
theorem sl_any {X : Cx} : SlR X (rSlAny X.K) := sl_list.or (sl_tupA.or sl_str)
/-- a slice's bound -/
def SP (T : ExcT) (X : Cx) (ex : Option Expr) (m : M (Option Int)) : Prop := ∀ F : Frm, Takes X F.W → PO X ex (tX T X.K F (fun _ _ a v => a = v) m)
theorem PO.weak {X : Cx} {e : Option Expr} {t t' : TO} (h : PO X e t) (w : ∀ σ H Q, t' σ H Q → t σ H Q) : PO X e t' := ⟨fun pins s σ H Q I q => h.run pins s σ H Q I (w σ H Q q)⟩
def asI (d : D) : M (Option Int) := M.of (match d with | .int i => some (some i) | _ => none)
section
variable {T : ExcT} {X : Cx} {a : Expr} {ma : M Opd} {lo hi : Option Expr} {ml mh : M (Option Int)} {pos p2 : Pos}
theorem sp_none : SP T X none (M.pure none) := fun F _ => PO.weak po_none fun σ H Q ⟨e, G, s, q⟩ => q none H G s LeG.refl rfl
theorem sp_some {m : M D} (h : SE T X a m) : SP T X (some a) (M.bind m asI) := fun F tk => PO.weak (po_some (h F tk)) fun σ H Q ⟨e, G, s, q⟩ => by
  refine ⟨e, G, s, (Aft.bind q).mono fun v1 H1 ⟨d, e1, G1, s1, l1, r1, q1⟩ => ?_⟩
  cases d with
  | int i =>
    cases r1
    exact ⟨i, rfl, q1 (some i) H1 G1 s1 LeG.refl rfl⟩
  | _ => exact q1.elim
def doSlc (o : Opd) (lo hi : Option Int) : M D := doOp1 (fun d => slcD d lo hi) o
theorem op1_slc {K : Fg} {lo hi : Option Int} : Op1 K (fun v H Q => rSlAny K v lo hi H Q) (fun d => slcD d lo hi) := fun G H d v d' Q l r e q => by
  cases d <;> simp only [slcD] at e
  case list ds =>
    cases e
    obtain ⟨a, xs, rfl, h1, h2⟩ := r.list l
    refine .inl ⟨a, xs, rfl, h1.sq, fun p np => ?_⟩
    have w := Grow.one l np (.lst (cutV xs lo hi))
    exact q _ _ _ w (.lst (.inl (.inl upd_same)) ((h2.cutD lo hi).le w.g))
  case tuple ds =>
    cases e
    obtain ⟨a, xs, rfl, h1, h2, k⟩ := r.tuple l
    refine .inr (.inl ⟨a, xs, rfl, h1, fun z => ?_, fun z p np => ?_⟩)
    · have e : Tp.cutD ds lo hi = ds := by
        unfold Tp.cutD
        rw [h2.length, z.1, z.2, List.drop_zero, Nat.sub_zero, ← h2.length, List.take_length]
      rw [e] at q
      exact q _ G H (Grow.refl l) k
    · have w := Grow.one l np (.tup (cutV xs lo hi))
      exact q _ _ _ w (.tup (.inl (.inl upd_same)) ((h2.cutD lo hi).le w.g))
  case str z =>
    split at e
    · rename_i hz
      cases e
      exact .inr (.inr ⟨z, r.str, hz, q _ G H (Grow.refl l) (.str _)⟩)
    · cases e
  all_goals cases e
theorem se_slice (ha : SO T X a ma) (hl : SP T X lo ml) (hh : SP T X hi mh) : SE T X (.Subscript a (.Slice lo hi none p2) pos) (M.bind ma fun o => M.bind ml fun l => M.bind mh fun h => doSlc o l h) := fun F tk =>
  PE.weak (pe_slice sl_any (ha F tk) (hl F tk) (hh F tk)) fun σ H Q ⟨e, G, s, q⟩ => by
  refine ⟨e, G, s, (Aft.bind q).mono fun v1 H1 ⟨o1, e1, G1, s1, l1, r1, q1⟩ => ?_⟩
  refine ⟨e1, G1, s1, (Aft.bind (rel := fun _ a v => a = v) q1).mono fun v2 H2 ⟨o2, e2, G2, s2, l2, r2, q2⟩ => ?_⟩
  refine ⟨e2, G2, s2, (Aft.bind (rel := fun _ a v => a = v) q2).mono fun v3 H3 ⟨o3, e3, G3, s3, l3, r3, q3⟩ => ?_⟩
  subst r2 r3
  exact aft_op1 op1_slc s3 (rO.le l3 (rO.le l2 r1)) q3
def revD : D → Option D
  | .list ds => some (.list ds.reverse)
  | _ => none
theorem se_rev {k : Nat} {p1 p3 p4 : Pos} (ha : SO T X a ma) : SE T X (.Subscript a (.Slice none none (some (.UnaryOp .USub (.Constant (.int 1) k p1) p3)) p4) pos) (M.bind ma fun o => doOp1 revD o) := fun F tk =>
  PE.weak (pe_revL (ha F tk)) fun σ H Q ⟨e, G, s, q⟩ => by
  refine ⟨e, G, s, (Aft.bind q).mono fun v1 H1 ⟨o1, e1, G1, s1, l1, r1, q1⟩ => ?_⟩
  refine aft_op1 (r := fun x H1 Q => ∃ a xs, x = V.ref a ∧ SqL X.K H1 a xs ∧ ∀ p, H1 p = none → Q (.ref p) (upd H1 p (.lst xs.reverse))) (fun G H d v d' Q l r e q => ?_) s1 r1 q1
  cases d <;> simp only [revD] at e
  case list ds =>
    cases e
    obtain ⟨a, xs, rfl, h1, h2⟩ := r.list l
    refine ⟨a, xs, rfl, h1.sq, fun p np => ?_⟩
    have w := Grow.one l np (.lst xs.reverse)
    exact q _ _ _ w (.lst (.inl (.inl upd_same)) (h2.rev.le w.g))
  all_goals cases e
end
end Tp
/-! Tp7: what is walked, targets, list comprehensions. -/
namespace Tp
open PySem PySem.Spec PyProof.Rows L2
theorem RD.list_inv {K : Fg} {G : Hp} {ds : List D} {v : V} (h : RD K G (.list ds) v) : ∃ a vs, v = .ref a ∧ LsK K G a vs ∧ RDs K G ds vs := by
  cases h with
  | lst s r => exact ⟨_, _, rfl, s, r⟩
theorem RD.tuple_inv {K : Fg} {G : Hp} {ds : List D} {v : V} (h : RD K G (.tuple ds) v) : ∃ a vs, v = .ref a ∧ SqT K G a vs ∧ RDs K G ds vs := by
  cases h with
  | tup s r => exact ⟨_, _, rfl, s, r⟩
theorem ROs.one {K : Fg} {σ : L2.St} {G : Hp} {o : Opd} {vs : List V} (h : ROs K σ G [o] vs) : ∃ v, vs = [v] ∧ rO K σ G o v := by
  cases h with
  | cons a b => cases b; exact ⟨_, rfl, a⟩
theorem ROs.two {K : Fg} {σ : L2.St} {G : Hp} {o o2 : Opd} {vs : List V} (h : ROs K σ G [o, o2] vs) : ∃ v v2, vs = [v, v2] ∧ rO K σ G o v ∧ rO K σ G o2 v2 := by
  cases h with
  | cons a b =>
    obtain ⟨v, rfl, b1⟩ := b.one
    exact ⟨_, _, rfl, a, b1⟩
/-- what is walked gives these items, while S stands -/
structure Wk (K : Fg) (J : It) (S : Hp → Hp → Prop) (ds : List D) : Prop where
  goes : ∀ (i : Nat) (G H : Hp), i < ds.length → LeG G H → S G H → J.go i H
  stops : ∀ (G H : Hp), LeG G H → S G H → J.stop ds.length H
  yields : ∀ (i : Nat) (G H : Hp) (x : V) (H' : Hp), i < ds.length → LeG G H → S G H → J.yld i H x H' → ∃ d G', ds[i]? = some d ∧ Grow G H G' H' ∧ RD K G' d x
/-- the items, and the slot of the own object that is walked -/
abbrev Src := List D × Option Nat
def srcAt (p : Src) (e : Env) : Prop := match p.2 with | some i => e[i]?.bind Slot.mine? = some (.list p.1) | none => True
def rI' (K : Fg) : L2.St → Hp → Src → It → Prop := fun σ G p J => ∃ S, Wk K J S p.1 ∧
  ∀ (F1 : Frm) (σ1 : L2.St) (H1 : Hp) (e1 : Env) (G1 : Hp), SR K F1 σ1 H1 e1 G1 → LeG G G1 → (∀ i, p.2 = some i → σ1[i]? = σ[i]?) → srcAt p e1 → S G1 H1
theorem PI.weak {X : Cx} {tg e : Expr} {t t' : TI} (h : PI X tg e t) (w : ∀ σ H Q, t' σ H Q → t σ H Q) : PI X tg e t' := ⟨fun pins s σ H Q I q => h.run pins s σ H Q I (w σ H Q q)⟩
def SI (T : ExcT) (X : Cx) (tg ex : Expr) (m : M Src) : Prop := ∀ F : Frm, Takes X F.W → PI X tg ex (tX T X.K F (rI' X.K) m)
section
variable {T : ExcT} {X : Cx} {tg l : Expr}
theorem pi_seq {tl : TE} (hl : PE X l tl) : PI X tg l (fun σ H R => tl σ H fun x H1 => ∃ a, x = .ref a ∧ ((∃ xs, SqL X.K H1 a xs ∧ R (Itl X.K a) H1) ∨ ∃ xs, SqT X.K H1 a xs ∧ R (Itt X.K a) H1)) := by
  refine ⟨fun pins s σ H R I h => ?_⟩
  refine thn (hl.run pins s σ H _ I h) fun v s1 ⟨x, H1, I1, r1, q1⟩ => ?_
  obtain ⟨a, e, q⟩ := q1
  subst e
  cases r1
  rcases q with ⟨xs, hq, q⟩ | ⟨xs, hq, q⟩
  · obtain ⟨its, rv, p, hz⟩ := I1.list hq
    refine wpAny_pyIter_list p.isList ?_
    refine ⟨s1.heap.objs.size, [s1.heap.objs.size], _, _, H1, rfl, I1.kept (t' := s1.toks) fun b o e => Heap.get?_push_of_some _ e, turn_list a _, ⟨_, Heap.get?_push_size _ rfl, rfl, rfl⟩, fun b hb => ?_, q⟩
    have e : b = s1.heap.objs.size := by simpa using hb
    subst e
    exact I1.fpOk (Nat.le_refl _) (I1.hok.fresh (Nat.le_refl _))
  · obtain ⟨its, rv, p, hz⟩ := I1.tuple hq
    refine wpAny_pyIter_tuple (show s1.heap.IsTuple a its.toArray from p) ?_
    refine ⟨s1.heap.objs.size, [s1.heap.objs.size], _, _, H1, rfl, I1.kept (t' := s1.toks) fun b o e => Heap.get?_push_of_some _ e, turn_tuple a _, ⟨_, Heap.get?_push_size _ rfl, rfl, rfl⟩, fun b hb => ?_, q⟩
    have e : b = s1.heap.objs.size := by simpa using hb
    subst e
    exact I1.fpOk (Nat.le_refl _) (I1.hok.fresh (Nat.le_refl _))
/-- a list, a tuple -/
def asSrc (o : Opd) : M Src := fun e => match o with
  | .inl (.list ds) => .ok (ds, none) e
  | .inl (.tuple ds) => .ok (ds, none) e
  | .inr i => match e[i]?.bind Slot.mine? with | some (.list ds) => .ok (ds, some i) e | _ => .stuck
  | _ => .stuck
theorem wk_list {K : Fg} {a : Addr} {ds : List D} {S : Hp → Hp → Prop} (h : ∀ G H, LeG G H → S G H → ∃ vs, SqL K H a vs ∧ RDs K G ds vs) : Wk K (Itl K a) S ds where
  goes := fun i G H hi l s => by
    obtain ⟨vs, h1, h2⟩ := h G H l s
    have : i < vs.length := by rw [← h2.length]; exact hi
    exact ⟨vs, vs[i], h1, List.getElem?_eq_getElem this⟩
  stops := fun G H l s => by
    obtain ⟨vs, h1, h2⟩ := h G H l s
    exact ⟨vs, h1, by rw [h2.length]; exact Nat.le_refl _⟩
  yields := fun i G H x H' hi l s y => by
    obtain ⟨vs, h1, h2⟩ := h G H l s
    obtain ⟨rfl, y2⟩ := y
    obtain ⟨d, k1, k2⟩ := h2.getV (y2 vs h1)
    exact ⟨d, G, k1, Grow.refl l, k2⟩
theorem wk_tup {K : Fg} {a : Addr} {ds : List D} {S : Hp → Hp → Prop} (h : ∀ G H, LeG G H → S G H → ∃ vs, SqT K H a vs ∧ RDs K G ds vs) : Wk K (Itt K a) S ds where
  goes := fun i G H hi l s => by
    obtain ⟨vs, h1, h2⟩ := h G H l s
    have : i < vs.length := by rw [← h2.length]; exact hi
    exact ⟨vs, vs[i], h1, List.getElem?_eq_getElem this⟩
  stops := fun G H l s => by
    obtain ⟨vs, h1, h2⟩ := h G H l s
    exact ⟨vs, h1, by rw [h2.length]; exact Nat.le_refl _⟩
  yields := fun i G H x H' hi l s y => by
    obtain ⟨vs, h1, h2⟩ := h G H l s
    obtain ⟨rfl, y2⟩ := y
    obtain ⟨d, k1, k2⟩ := h2.getV (y2 vs h1)
    exact ⟨d, G, k1, Grow.refl l, k2⟩
theorem si_seq {m : M Opd} (h : SO T X l m) : SI T X tg l (M.bind m asSrc) := fun F tk => PI.weak (pi_seq (h F tk)) fun σ H R ⟨e, G, s, q⟩ => by
  refine ⟨e, G, s, (Aft.bind q).mono fun v H1 ⟨o, e1, G1, s1, l1, r1, q1⟩ => ?_⟩
  cases o with
  | inl d =>
    cases d with
    | list ds =>
        obtain ⟨a, vs, rfl, sq, rs⟩ := RD.list_inv r1
        refine ⟨a, rfl, .inl ⟨vs, (LsK.le s1.le sq).sq, q1 _ H1 G1 s1 LeG.refl ⟨fun G H => LeG G1 G, wk_list fun G H l' s' => ⟨vs, (LsK.le (s'.trans l') sq).sq, rs.le s'⟩, fun _ _ _ _ _ _ g _ _ => g⟩⟩⟩
    | tuple ds =>
        obtain ⟨a, vs, rfl, sq, rs⟩ := RD.tuple_inv r1
        refine ⟨a, rfl, .inr ⟨vs, SqT.le s1.le sq, q1 _ H1 G1 s1 LeG.refl ⟨fun G H => LeG G1 G, wk_tup fun G H l' s' => ⟨vs, SqT.le (s'.trans l') sq, rs.le s'⟩, fun _ _ _ _ _ _ g _ _ => g⟩⟩⟩
    | _ => exact q1.elim
  | inr i =>
    simp only [asSrc] at q1
    cases hm : e1[i]?.bind Slot.mine? with
    | none => rw [hm] at q1; exact q1.elim
    | some d =>
      rw [hm] at q1
      cases d with
      | list ds =>
        obtain ⟨a, k1, k2, _⟩ := s1.mine hm
        have r1' : σ[i]? = some (some v) := r1
        rw [k1] at r1'
        have ev : v = .ref a := by
          injection r1' with z
          injection z with z
          exact z.symm
        subst ev
        obtain ⟨_, vs, h1, h2⟩ := k2
        refine ⟨a, rfl, .inl ⟨vs, .inl (.inl h1), q1 _ H1 G1 s1 LeG.refl ⟨fun G H => OwnAt X.K G H a (.list ds), wk_list fun G H l' s' => ?_, fun F1 σ1 H2 e2 G2 s2 g hσ at_ => ?_⟩⟩⟩
        · obtain ⟨_, vs', k1, k2⟩ := s'
          exact ⟨vs', .inl (.inl k1), k2⟩
        · have hm2 : e2[i]?.bind Slot.mine? = some (.list ds) := at_
          obtain ⟨a2, w1, w2, _⟩ := s2.mine hm2
          rw [hσ i rfl, k1] at w1
          have ea : a = a2 := by
            injection w1 with z
            injection z with z
            injection z
          subst ea
          exact w2
      | _ => exact q1.elim
/-- range(n), range(a, b) -/
def rngs (lo : Int) (n : Nat) : List D := (List.range n).map fun i => .int (lo + (i : Nat))
def asRng (os : List Opd) : M Src := M.of (match os with
  | [.inl (.int j)] => if -(2 ^ 62) ≤ j ∧ j < 2 ^ 62 then some (rngs 0 j.toNat, none) else none
  | [.inl (.int i), .inl (.int j)] => if -(2 ^ 62) ≤ i ∧ i < 2 ^ 62 ∧ -(2 ^ 62) ≤ j ∧ j < 2 ^ 62 then some (rngs i (j - i).toNat, none) else none
  | _ => none)
theorem wk_rng {K : Fg} {lo : Int} {n : Nat} {S : Hp → Hp → Prop} : Wk K (Itr lo n) S (rngs lo n) := by
  have hl : (rngs lo n).length = n := by simp [rngs]
  refine ⟨fun i G H hi l s => by rw [hl] at hi; exact hi, fun G H l s => by rw [hl]; exact Nat.le_refl n, fun i G H x H' hi l s y => ?_⟩
  rw [hl] at hi
  obtain ⟨rfl, rfl⟩ := y
  exact ⟨.int (lo + (i : Nat)), G, by simp [rngs, hi], Grow.refl l, .int _⟩
/-- zip of two lists, of two tuples -/
def zipD (a b : List D) : List D := (a.zip b).map fun p => .tuple [p.1, p.2]
def asZip (os : List Opd) : M Src := M.of (match os with
  | [.inl (.list a), .inl (.list b)] => some (zipD a b, none)
  | [.inl (.tuple a), .inl (.tuple b)] => some (zipD a b, none)
  | _ => none)
theorem zipD_get {a b : List D} {i : Nat} {x y : D} (h1 : a[i]? = some x) (h2 : b[i]? = some y) : (zipD a b)[i]? = some (.tuple [x, y]) := by
  unfold zipD
  rw [List.getElem?_map, show (a.zip b)[i]? = some (x, y) from List.getElem?_zip_eq_some.mpr ⟨h1, h2⟩]
  rfl
theorem wk_zipL {K : Fg} {a b : Addr} {ds es : List D} {S : Hp → Hp → Prop} (h : ∀ G H, LeG G H → S G H → ∃ vs us, SqL K H a vs ∧ RDs K G ds vs ∧ SqL K H b us ∧ RDs K G es us) : Wk K (Itz K a b) S (zipD ds es) := by
  have hl : (zipD ds es).length = min ds.length es.length := by simp [zipD]
  refine ⟨fun i G H hi l s => ?_, fun G H l s => ?_, fun i G H x H' hi l s y => ?_⟩
  · obtain ⟨vs, us, h1, h2, h3, h4⟩ := h G H l s
    have e1 := h2.length
    have e2 := h4.length
    exact ⟨vs, us, vs[i]'(by omega), us[i]'(by omega), h1, h3, List.getElem?_eq_getElem _, List.getElem?_eq_getElem _⟩
  · obtain ⟨vs, us, h1, h2, h3, h4⟩ := h G H l s
    have e1 := h2.length
    have e2 := h4.length
    exact ⟨vs, us, h1, h3, by omega⟩
  · obtain ⟨vs, us, h1, h2, h3, h4⟩ := h G H l s
    obtain ⟨T, x1, y1, rfl, nT, rfl, f1, f2⟩ := y
    obtain ⟨d1, k1, r1⟩ := h2.getV (f1 vs h1)
    obtain ⟨d2, k2, r2⟩ := h4.getV (f2 us h3)
    have w := Grow.one l nT (.tup [x1, y1])
    exact ⟨_, _, zipD_get k1 k2, w, .tup (.inl (.inl upd_same)) (.cons (r1.le w.g) (.cons (r2.le w.g) .nil))⟩
theorem wk_zipT {K : Fg} {a b : Addr} {ds es : List D} {S : Hp → Hp → Prop} (h : ∀ G H, LeG G H → S G H → ∃ vs us, SqT K H a vs ∧ RDs K G ds vs ∧ SqT K H b us ∧ RDs K G es us) : Wk K (RZ.ItzT K a b) S (zipD ds es) := by
  have hl : (zipD ds es).length = min ds.length es.length := by simp [zipD]
  refine ⟨fun i G H hi l s => ?_, fun G H l s => ?_, fun i G H x H' hi l s y => ?_⟩
  · obtain ⟨vs, us, h1, h2, h3, h4⟩ := h G H l s
    have e1 := h2.length
    have e2 := h4.length
    exact ⟨vs, us, vs[i]'(by omega), us[i]'(by omega), h1, h3, List.getElem?_eq_getElem _, List.getElem?_eq_getElem _⟩
  · obtain ⟨vs, us, h1, h2, h3, h4⟩ := h G H l s
    have e1 := h2.length
    have e2 := h4.length
    exact ⟨vs, us, h1, h3, by omega⟩
  · obtain ⟨vs, us, h1, h2, h3, h4⟩ := h G H l s
    obtain ⟨T, x1, y1, rfl, nT, rfl, f1, f2⟩ := y
    obtain ⟨d1, k1, r1⟩ := h2.getV (f1 vs h1)
    obtain ⟨d2, k2, r2⟩ := h4.getV (f2 us h3)
    have w := Grow.one l nT (.tup [x1, y1])
    exact ⟨_, _, zipD_get k1 k2, w, .tup (.inl (.inl upd_same)) (.cons (r1.le w.g) (.cons (r2.le w.g) .nil))⟩
theorem si_zip {a b : Expr} {ms : M (List Opd)} {p pos tpos : Pos} {elts : List Expr} {kk : Nat} (hg : Gl X "zip") (hm : X.mg "zip" = none) (ha : SA T X [a, b] ms) (ns : notStar a = true) (ns2 : notStar b = true) :
    SI T X (.Tuple elts kk tpos) (.Call (.Name "zip" p) [a, b] [] pos) (M.bind ms asZip) := fun F tk => PI.weak (RZ.pi_zipA hg hm (ha F tk) (by rw [star_cons ns, star_cons ns2] <;> rfl) (by rw [star_cons ns2] <;> rfl)) fun σ H R ⟨e, G, s, q⟩ => by
  refine ⟨e, G, s, (Aft.bind q).mono fun vs H1 ⟨os, e1, G1, s1, l1, r1, q1⟩ => ?_⟩
  unfold asZip at q1
  split at q1
  · rename_i da db
    obtain ⟨v, v2, rfl, ra, rb⟩ := r1.two
    obtain ⟨x, xs, rfl, h1, h2⟩ := RD.list_inv (show RD X.K G1 (.list da) v from ra)
    obtain ⟨y, ys, rfl, h3, h4⟩ := RD.list_inv (show RD X.K G1 (.list db) v2 from rb)
    refine ⟨x, y, xs, ys, rfl, .inl ⟨(LsK.le s1.le h1).sq, (LsK.le s1.le h3).sq, q1 _ H1 G1 s1 LeG.refl ⟨fun G H => LeG G1 G, wk_zipL fun G H l' s' => ⟨xs, ys, (LsK.le (s'.trans l') h1).sq, h2.le s', (LsK.le (s'.trans l') h3).sq, h4.le s'⟩, fun _ _ _ _ _ _ g _ _ => g⟩⟩⟩
  · rename_i da db
    obtain ⟨v, v2, rfl, ra, rb⟩ := r1.two
    obtain ⟨x, xs, rfl, h1, h2⟩ := RD.tuple_inv (show RD X.K G1 (.tuple da) v from ra)
    obtain ⟨y, ys, rfl, h3, h4⟩ := RD.tuple_inv (show RD X.K G1 (.tuple db) v2 from rb)
    refine ⟨x, y, xs, ys, rfl, .inr ⟨SqT.le s1.le h1, SqT.le s1.le h3, q1 _ H1 G1 s1 LeG.refl ⟨fun G H => LeG G1 G, wk_zipT fun G H l' s' => ⟨xs, ys, SqT.le (s'.trans l') h1, h2.le s', SqT.le (s'.trans l') h3, h4.le s'⟩, fun _ _ _ _ _ _ g _ _ => g⟩⟩⟩
  · exact q1.elim
theorem si_rng1 {a : Expr} {ms : M (List Opd)} {p pos : Pos} (hg : Gl X "range") (hm : X.mg "range" = none) (ha : SA T X [a] ms) (ns : notStar a = true) :
    SI T X tg (.Call (.Name "range" p) [a] [] pos) (M.bind ms fun os => if os.length = 1 then asRng os else M.stuck) := fun F tk => PI.weak (pi_range1 hg hm (ha F tk) (by rw [star_cons ns] <;> rfl)) fun σ H R ⟨e, G, s, q⟩ => by
  refine ⟨e, G, s, (Aft.bind q).mono fun vs H1 ⟨os, e1, G1, s1, l1, r1, q1⟩ => ?_⟩
  split at q1
  · rename_i hlen
    unfold asRng at q1
    split at q1
    · rename_i j
      split at q1
      · rename_i hj
        obtain ⟨v, rfl, ra⟩ := r1.one
        have ra' : RD X.K G1 (.int j) v := ra
        cases ra'
        exact ⟨j, rfl, hj.1, hj.2, q1 _ H1 G1 s1 LeG.refl ⟨fun _ _ => True, wk_rng, fun _ _ _ _ _ _ _ _ _ => trivial⟩⟩
      · exact q1.elim
    · simp at hlen
    · exact q1.elim
  · exact q1.elim
theorem si_rng2 {a b : Expr} {ms : M (List Opd)} {p pos : Pos} (hg : Gl X "range") (hm : X.mg "range" = none) (ha : SA T X [a, b] ms) (ns : notStar a = true) (ns2 : notStar b = true) :
    SI T X tg (.Call (.Name "range" p) [a, b] [] pos) (M.bind ms fun os => if os.length = 2 then asRng os else M.stuck) := fun F tk => PI.weak (pi_range2 hg hm (ha F tk) (by rw [star_cons ns, star_cons ns2] <;> rfl) (by rw [star_cons ns2] <;> rfl)) fun σ H R ⟨e, G, s, q⟩ => by
  refine ⟨e, G, s, (Aft.bind q).mono fun vs H1 ⟨os, e1, G1, s1, l1, r1, q1⟩ => ?_⟩
  split at q1
  · rename_i hlen
    unfold asRng at q1
    split at q1
    · simp at hlen
    · rename_i i j
      split at q1
      · rename_i hj
        obtain ⟨v, v2, rfl, ra, rb⟩ := r1.two
        have ra' : RD X.K G1 (.int i) v := ra
        have rb' : RD X.K G1 (.int j) v2 := rb
        cases ra'
        cases rb'
        exact ⟨i, j, rfl, hj, q1 _ H1 G1 s1 LeG.refl ⟨fun _ _ => True, wk_rng, fun _ _ _ _ _ _ _ _ _ => trivial⟩⟩
      · exact q1.elim
    · exact q1.elim
  · exact q1.elim
end
/-! ### targets -/
def setV (e : Env) (i : Nat) (d : D) : Option Env := match e[i]? with | none => none | some (.io _) => none | some _ => some (e.set i (.val d))
theorem SR.setv {K : Fg} {F : Frm} {σ : L2.St} {H G : Hp} {e e' : Env} (s : SR K F σ H e G) {i : Nat} {d : D} {v : V} (r : RD K G d v) (h : setV e i d = some e') : SR K F (σ.set i (some v)) H e' G := by
  unfold setV at h
  cases q : e[i]? with
  | none => rw [q] at h; cases h
  | some sl =>
    have nio : ∀ d', sl ≠ .io d' := fun d' z => by subst z; rw [q] at h; cases h
    have he : e' = e.set i (.val d) := by
      rw [q] at h
      cases sl <;> first | exact (Option.some.inj h).symm | exact absurd rfl (nio _)
    subst he
    have hi : i < e.length := (List.getElem?_eq_some_iff.mp q).1
    have hi' : i < σ.length := by rw [← s.len]; exact hi
    have off : ∀ {j : Nat}, j ≠ i → (e.set i (.val d))[j]? = e[j]? := fun {j} hj => List.getElem?_set_ne (Ne.symm hj)
    have offσ : ∀ {j : Nat}, j ≠ i → (σ.set i (some v))[j]? = σ[j]? := fun {j} hj => List.getElem?_set_ne (Ne.symm hj)
    have own : (e.set i (.val d))[i]? = some (.val d) := List.getElem?_set_self hi
    have nm : ∀ {j : Nat} {d' : D}, ((e.set i (.val d))[j]?).bind Slot.mine? = some d' → j ≠ i := fun {j d'} hj z => by subst z; rw [own] at hj; cases hj
    refine ⟨s.le, by rw [List.length_set, List.length_set]; exact s.len, fun j d' hj => ?_, fun j d' hj => ?_, fun j d' hj => ?_, fun p hp => ?_, fun j k d1 d2 b hjk hj hk => ?_, s.keep, s.gk, s.fresh, s.res⟩
    · by_cases z : j = i
      · subst z
        rw [own] at hj
        have : d = d' := by injection hj with hj; injection hj
        subst this
        exact ⟨v, List.getElem?_set_self hi', r⟩
      · rw [off z] at hj
        obtain ⟨w, k1, k2⟩ := s.vals j d' hj
        exact ⟨w, by rw [offσ z]; exact k1, k2⟩
    · have z := nm (j := j) (d' := d') (by rw [hj]; rfl)
      rw [off z] at hj
      obtain ⟨a, k1, k2, k3, k4⟩ := s.owns j d' hj
      exact ⟨a, by rw [offσ z]; exact k1, k2, k3, k4⟩
    · have z := nm (j := j) (d' := d') (by rw [hj]; rfl)
      rw [off z] at hj
      exact s.iosl j d' hj
    · obtain ⟨k1, d', k2⟩ := s.iosv p hp
      have z : p.1 ≠ i := fun z => by rw [z, q] at k2; exact nio d' (Option.some.inj k2)
      exact ⟨by rw [offσ z]; exact k1, d', by rw [off z]; exact k2⟩
    · have z1 := nm hj
      have z2 := nm hk
      rw [off z1] at hj
      rw [off z2] at hk
      rw [offσ z1, offσ z2]
      exact s.dist j k d1 d2 b hjk hj hk
theorem wipe_get {σ : L2.St} {j : Nat} : ∀ {vs : List Nat}, (wipe σ vs)[j]? = if j ∈ vs then σ[j]?.map (fun _ => none) else σ[j]?
  | [] => by simp [wipe]
  | v :: vs => by
    unfold wipe
    have ih := wipe_get (σ := σ) (j := j) (vs := vs)
    by_cases z : j = v
    · subst z
      rw [if_pos List.mem_cons_self]
      by_cases hj : j < σ.length
      · rw [List.getElem?_set_self (by rw [wipe_length]; exact hj), List.getElem?_eq_getElem hj]
        rfl
      · rw [List.getElem?_eq_none (by rw [List.length_set, wipe_length]; omega), List.getElem?_eq_none (by omega)]
        rfl
    · rw [List.getElem?_set_ne (Ne.symm z), ih]
      by_cases hv : j ∈ vs
      · rw [if_pos hv, if_pos (List.mem_cons_of_mem _ hv)]
      · rw [if_neg hv, if_neg (by rw [List.mem_cons, not_or]; exact ⟨z, hv⟩)]
theorem wipe_set {σ : L2.St} {i : Nat} {x : Option V} {vs : List Nat} (h : i ∈ vs) : wipe (σ.set i x) vs = wipe σ vs := by
  apply List.ext_getElem?
  intro j
  rw [wipe_get, wipe_get]
  by_cases z : j = i
  · subst z
    rw [if_pos h, if_pos h]
    by_cases hj : j < σ.length
    · rw [List.getElem?_set_self hj, List.getElem?_eq_getElem hj]; rfl
    · rw [List.getElem?_eq_none (by rw [List.length_set]; omega), List.getElem?_eq_none (by omega)]
  · rw [List.getElem?_set_ne (Ne.symm z)]
theorem wipe_wipe {σ : L2.St} {vs : List Nat} : wipe (wipe σ vs) vs = wipe σ vs := by
  apply List.ext_getElem?
  intro j
  rw [wipe_get]
  by_cases h : j ∈ vs
  · rw [if_pos h, wipe_get, if_pos h]
    cases σ[j]? <;> rfl
  · rw [if_neg h]
/-- the targets' slots take the items -/
def bindAll : List Nat → List D → Env → Option Env
  | [], [], e => some e
  | t :: ts, d :: ds, e => (setV e t d).bind (bindAll ts ds)
  | _, _, _ => none
inductive Tgt where
  | one (i : Nat)
  | many (is : List Nat)
def Tgt.slots : Tgt → List Nat
  | .one i => [i]
  | .many is => is
def Tgt.bind (t : Tgt) (d : D) (e : Env) : Option Env := match t with
  | .one i => setV e i d
  | .many is => match d with | .tuple ds => bindAll is ds e | _ => none
/-- a target stores what bt says -/
def gT (K : Fg) (t : Tgt) : TG := fun v σ H Q => ∃ F d e e' G, SR K F σ H e G ∧ RD K G d v ∧ t.bind d e = some e' ∧
  ∀ σ', SR K F σ' H e' G → (∀ vs, (∀ i ∈ t.slots, i ∈ vs) → wipe σ' vs = wipe σ vs) → Q σ' H
def SG (X : Cx) (tg : Expr) (t : Tgt) : Prop := PG X tg (gT X.K t)
theorem PG.weak {X : Cx} {e : Expr} {t t' : TG} (h : PG X e t) (w : ∀ v σ H Q, t' v σ H Q → t v σ H Q) : PG X e t' := ⟨fun pins s σ H v u Q I r q => h.run pins s σ H v u Q I r (w v σ H Q q)⟩
section
variable {X : Cx} {i : Nat} {x : Str} {pos : Pos}
theorem sg_name (hN : X.N.Nodup) (hi : X.N[i]? = some x) (hx : Loc X.env.scope x) (hf : X.fn x = true ∨ X.env.scope.names.lookup x = some .local) : SG X (.Name x pos) (.one i) := PG.weak (pg_name hN hi hx hf) fun v σ H Q ⟨F, d, e, e', G, s, r, b, q⟩ =>
  q _ (s.setv r b) fun vs hv => wipe_set (hv i (by simp [Tgt.slots]))
/-- names of the def, by their slots -/
inductive SGs (X : Cx) : List Expr → List Nat → Prop
  | nil : SGs X [] []
  | cons {i : Nat} {x : Str} {pos : Pos} {es : List Expr} {is : List Nat} (hi : X.N[i]? = some x) (hx : Loc X.env.scope x) (hf : X.fn x = true ∨ X.env.scope.names.lookup x = some .local) (r : SGs X es is) : SGs X (.Name x pos :: es) (i :: is)
def gAll (X : Cx) (is : List Nat) : TGs := fun vs σ H Q => ∃ F ds e e' G, SR X.K F σ H e G ∧ RDs X.K G ds vs ∧ bindAll is ds e = some e' ∧
  ∀ σ', SR X.K F σ' H e' G → (∀ vs, (∀ i ∈ is, i ∈ vs) → wipe σ' vs = wipe σ vs) → Q σ' H
theorem PGs.weak {X : Cx} {e : List Expr} {t t' : TGs} (h : PGs X e t) (w : ∀ v σ H Q, t' v σ H Q → t v σ H Q) : PGs X e t' := ⟨fun pins s σ H v u Q I r q => h.run pins s σ H v u Q I r (w v σ H Q q)⟩
theorem SGs.pgs (hN : X.N.Nodup) : ∀ {es : List Expr} {is : List Nat}, SGs X es is → PGs X es (gAll X is)
  | _, _, .nil => PGs.weak pgs_nil fun v σ H Q ⟨F, ds, e, e', G, s, r, b, q⟩ => by
    cases ds with
    | nil =>
      cases r
      have z : e = e' := Option.some.inj b
      subst z
      exact ⟨rfl, q σ s fun _ _ => rfl⟩
    | cons d ds => cases b
  | _, _, .cons (i := i) hi hx hf r => PGs.weak (pgs_cons (pg_name hN hi hx hf) (SGs.pgs hN r)) fun v σ H Q ⟨F, ds, e, e', G, s, rr, b, q⟩ => by
    cases ds with
    | nil => cases b
    | cons d ds =>
      unfold bindAll at b
      cases hb : setV e i d with
      | none => rw [hb] at b; cases b
      | some e1 =>
        rw [hb] at b
        cases rr with
        | cons r1 r2 =>
          refine ⟨_, _, rfl, ?_⟩
          refine ⟨F, ds, e1, e', G, s.setv r1 hb, r2, b, fun σ' s' w => q σ' s' fun vs hv => ?_⟩
          rw [w vs fun j hj => hv j (List.mem_cons_of_mem _ hj)]
          exact wipe_set (hv i List.mem_cons_self)
theorem assign_len {env : PySem.Env} : ∀ {es : List Expr} {is : List Nat}, SGs X es is → (assignEach es env).length = is.length ∧ (assignEach es env).findIdx? (·.1) = none
  | _, _, .nil => ⟨rfl, rfl⟩
  | _, _, .cons (x := x) (pos := pos) (es := es) hi hx hf r => by
    obtain ⟨h1, h2⟩ := assign_len (env := env) r
    have e : assignEach (.Name x pos :: es) env = (false, assign (.Name x pos) env) :: assignEach es env := rfl
    rw [e]
    refine ⟨by rw [List.length_cons, List.length_cons, h1], ?_⟩
    rw [List.findIdx?_cons]
    simp [h2]
theorem sg_tup {es : List Expr} {is : List Nat} {k : Nat} (hN : X.N.Nodup) (hc : X.calm = true) (h : SGs X es is) : SG X (.Tuple es k pos) (.many is) := by
  obtain ⟨h1, h2⟩ := assign_len (env := X.env) h
  refine PG.weak (pg_tup (n := is.length) hc (h.pgs hN) h1 h2) fun v σ H Q ⟨F, d, e, e', G, s, r, b, q⟩ => ?_
  cases d <;> first | (cases b; done) | skip
  rename_i ds
  obtain ⟨a, vs, rfl, sq, rs⟩ := RD.tuple_inv r
  · have hl : ∀ {is : List Nat} {ds : List D} {e e' : Env}, bindAll is ds e = some e' → ds.length = is.length := by
      intro is
      induction is with
      | nil => intro ds e e' h; cases ds <;> first | rfl | cases h
      | cons i is ih =>
        intro ds e e' h
        cases ds with
        | nil => cases h
        | cons d ds =>
          unfold bindAll at h
          cases hb : setV e i d with
          | none => rw [hb] at h; cases h
          | some e1 =>
            rw [hb] at h
            rw [List.length_cons, List.length_cons, ih h]
    have b' : bindAll is ds e = some e' := b
    exact ⟨a, vs, rfl, SqT.le s.le sq, by rw [← rs.length]; exact hl b', F, ds, e, e', G, s, rs, b', q⟩
end
/-! ### comprehensions -/
/-- the block's own names are forgotten -/
def wipeE (e : Env) : List Nat → Option Env
  | [] => some e
  | v :: vs => (wipeE e vs).bind fun e' => match e'[v]? with | some (.io _) => none | some _ => some (e'.set v .no) | none => none
/-- .. and are the def's again -/
def backE (e1 e : Env) : List Nat → Env
  | [] => e
  | v :: vs => match e1[v]? with | some (.val d) => (backE e1 e vs).set v (.val d) | _ => backE e1 e vs
def lcLoop (t : Tgt) (own : List Nat) (mc : M Bool) (me : M D) : List D → Env → Option (List D × Env)
  | [], e => some ([], e)
  | d :: ds, e =>
    match t.bind d e with
    | none => none
    | some e3 =>
      match mc e3 with
      | .ok true e4 =>
        match me e4 with
        | .ok v e5 => (wipeE e5 own).bind fun e6 => (lcLoop t own mc me ds e6).map fun p => (v :: p.1, p.2)
        | _ => none
      | .ok false e4 => (wipeE e4 own).bind fun e6 => lcLoop t own mc me ds e6
      | _ => none
def srcOk (p : Src) (own : List Nat) : Bool := match p.2 with | some i => decide (i ∉ own) | none => true
def lcM (mi : M Src) (t : Tgt) (own : List Nat) (mc : M Bool) (me : M D) : M D := M.bind mi fun p e1 =>
  if p.1.length ≤ sizeLine ∧ srcOk p own = true then
    match (wipeE e1 own).bind (lcLoop t own mc me p.1) with
    | some (ds, e2) => .ok (.list ds) (backE e1 e2 own)
    | none => .stuck
  else .stuck
section
variable {K : Fg} {F : Frm} {σ : L2.St} {H G : Hp} {e e' : Env}
/-- a slot is forgotten -/
theorem SR.lose (s : SR K F σ H e G) {i : Nat} (hio : ∀ d, e[i]? ≠ some (.io d)) (x : Option V) : SR K F (σ.set i x) H (e.set i .no) G := by
  have off : ∀ {j : Nat} {sl : Slot}, (e.set i .no)[j]? = some sl → sl ≠ .no → j ≠ i ∧ e[j]? = some sl := fun {j sl} hj hn => by
    by_cases z : j = i
    · subst z
      by_cases hi : j < e.length
      · rw [List.getElem?_set_self hi] at hj; exact absurd (Option.some.inj hj).symm hn
      · rw [List.getElem?_eq_none (by rw [List.length_set]; omega)] at hj; cases hj
    · rw [List.getElem?_set_ne (Ne.symm z)] at hj
      exact ⟨z, hj⟩
  have offσ : ∀ {j : Nat}, j ≠ i → (σ.set i x)[j]? = σ[j]? := fun {j} hj => List.getElem?_set_ne (Ne.symm hj)
  have nm : ∀ {j : Nat} {d' : D}, ((e.set i .no)[j]?).bind Slot.mine? = some d' → j ≠ i ∧ e[j]?.bind Slot.mine? = some d' := fun {j d'} hj => by
    cases q : (e.set i .no)[j]? with
    | none => rw [q] at hj; cases hj
    | some sl =>
      rw [q] at hj
      have hn : sl ≠ .no := fun z => by subst z; cases hj
      obtain ⟨k1, k2⟩ := off q hn
      exact ⟨k1, by rw [k2]; exact hj⟩
  refine ⟨s.le, by rw [List.length_set, List.length_set]; exact s.len, fun j d' hj => ?_, fun j d' hj => ?_, fun j d' hj => ?_, fun p hp => ?_, fun j k d1 d2 b hjk hj hk => ?_, s.keep, s.gk, s.fresh, s.res⟩
  · obtain ⟨z, hj⟩ := off hj (by simp)
    obtain ⟨w, k1, k2⟩ := s.vals j d' hj
    exact ⟨w, by rw [offσ z]; exact k1, k2⟩
  · obtain ⟨z, hj⟩ := off hj (by simp)
    obtain ⟨a, k1, k2, k3, k4⟩ := s.owns j d' hj
    exact ⟨a, by rw [offσ z]; exact k1, k2, k3, k4⟩
  · obtain ⟨z, hj⟩ := off hj (by simp)
    exact s.iosl j d' hj
  · obtain ⟨k1, d', k2⟩ := s.iosv p hp
    have z : p.1 ≠ i := fun z => by rw [z] at k2; exact hio d' k2
    exact ⟨by rw [offσ z]; exact k1, d', by rw [List.getElem?_set_ne (Ne.symm z)]; exact k2⟩
  · obtain ⟨z1, hj⟩ := nm hj
    obtain ⟨z2, hk⟩ := nm hk
    rw [offσ z1, offσ z2]
    exact s.dist j k d1 d2 b hjk hj hk
theorem SR.wiped (s : SR K F σ H e G) : ∀ {vs : List Nat} {e' : Env}, wipeE e vs = some e' → SR K F (wipe σ vs) H e' G
  | [], e', h => by
    have z : e = e' := Option.some.inj h
    subst z
    exact s
  | v :: vs, e', h => by
    unfold wipeE at h
    cases hb : wipeE e vs with
    | none => rw [hb] at h; cases h
    | some e1 =>
      rw [hb] at h
      have ih := SR.wiped s hb
      cases hv : e1[v]? with
      | none =>
        rw [show (some e1 : Option Env).bind (fun e' => match e'[v]? with | some (.io _) => none | some _ => some (e'.set v .no) | none => none) = (match e1[v]? with | some (.io _) => none | some _ => some (e1.set v .no) | none => none) from rfl, hv] at h
        cases h
      | some sl =>
        rw [show (some e1 : Option Env).bind (fun e' => match e'[v]? with | some (.io _) => none | some _ => some (e'.set v .no) | none => none) = (match e1[v]? with | some (.io _) => none | some _ => some (e1.set v .no) | none => none) from rfl, hv] at h
        have z : (∀ d, sl ≠ .io d) ∧ e' = e1.set v .no := by
          cases sl <;> first | exact ⟨fun _ z => by simp at z, (Option.some.inj h).symm⟩ | (cases h; done)
        rw [z.2]
        exact ih.lose (fun d w => by rw [hv] at w; exact z.1 d (Option.some.inj w)) none
theorem wipeE_off : ∀ {vs : List Nat} {e e' : Env} {j : Nat}, wipeE e vs = some e' → j ∉ vs → e'[j]? = e[j]?
  | [], e, e', j, h, _ => by rw [← Option.some.inj h]
  | v :: vs, e, e', j, h, hj => by
    rw [List.mem_cons, not_or] at hj
    unfold wipeE at h
    cases hb : wipeE e vs with
    | none => rw [hb] at h; cases h
    | some e1 =>
      rw [hb] at h
      have ih := wipeE_off hb hj.2
      have h' : (match e1[v]? with | some (.io _) => none | some _ => some (e1.set v .no) | none => none) = some e' := h
      split at h'
      · cases h'
      · cases h'
        rw [List.getElem?_set_ne (Ne.symm hj.1)]
        exact ih
      · cases h'
theorem wipeE_len : ∀ {vs : List Nat} {e e' : Env}, wipeE e vs = some e' → e'.length = e.length
  | [], e, e', h => by rw [← Option.some.inj h]
  | v :: vs, e, e', h => by
    unfold wipeE at h
    cases hb : wipeE e vs with
    | none => rw [hb] at h; cases h
    | some e1 =>
      rw [hb] at h
      have ih := wipeE_len hb
      have h' : (match e1[v]? with | some (.io _) => none | some _ => some (e1.set v .no) | none => none) = some e' := h
      split at h'
      · cases h'
      · cases h'
        rw [List.length_set]
        exact ih
      · cases h'
theorem wipeE_no : ∀ {vs : List Nat} {e e' : Env} {j : Nat}, wipeE e vs = some e' → j ∈ vs → e'[j]? = some .no
  | [], e, e', j, h, hj => by cases hj
  | v :: vs, e, e', j, h, hj => by
    unfold wipeE at h
    cases hb : wipeE e vs with
    | none => rw [hb] at h; cases h
    | some e1 =>
      rw [hb] at h
      have h' : (match e1[v]? with | some (.io _) => none | some _ => some (e1.set v .no) | none => none) = some e' := h
      have hv : v < e1.length ∧ e' = e1.set v .no := by
        split at h'
        · cases h'
        · rename_i hx
          exact ⟨(List.getElem?_eq_some_iff.mp hx).1, (Option.some.inj h').symm⟩
        · cases h'
      rw [hv.2]
      by_cases z : j = v
      · subst z
        exact List.getElem?_set_self hv.1
      · rw [List.getElem?_set_ne (Ne.symm z)]
        rcases List.mem_cons.mp hj with q | q
        · exact absurd q z
        · exact wipeE_no hb q
/-- behind a comprehension: the slots are the def's again -/
theorem SR.back {e1 : Env} {G1 : Hp} (s1 : ∀ (i : Nat) (d : D), e1[i]? = some (Slot.val d) → ∃ v, σ[i]? = some (some v) ∧ RD K G1 d v) (g : LeG G1 G) {own : List Nat} (s : SR K F (wipe σ own) H e G) (hn : ∀ i ∈ own, e[i]? = some Slot.no) :
    SR K F σ H (backE e1 e own) G := by
  -- first the slots themselves, then the values that come back
  have base : ∀ {vs : List Nat} {e : Env}, (∀ i ∈ vs, e[i]? = some .no) → SR K F (wipe σ vs) H e G → SR K F σ H e G := by
    intro vs e hn s
    have nn : ∀ {j : Nat} {sl : Slot}, e[j]? = some sl → sl ≠ .no → j ∉ vs := fun {j sl} hj h z => by rw [hn j z] at hj; exact h (Option.some.inj hj).symm
    have off : ∀ {j : Nat}, j ∉ vs → (wipe σ vs)[j]? = σ[j]? := fun {j} h => by rw [wipe_get, if_neg h]
    have nm : ∀ {j : Nat} {d' : D}, e[j]?.bind Slot.mine? = some d' → j ∉ vs := fun {j d'} hj z => by rw [hn j z] at hj; cases hj
    refine ⟨s.le, by rw [s.len, wipe_length], fun j d' hj => ?_, fun j d' hj => ?_, s.iosl, fun p hp => ?_, fun j k d1 d2 b hjk hj hk => ?_, s.keep, s.gk, s.fresh, s.res⟩
    · obtain ⟨w, k1, k2⟩ := s.vals j d' hj
      exact ⟨w, by rw [← off (nn hj (by simp))]; exact k1, k2⟩
    · obtain ⟨a, k1, k2, k3, k4⟩ := s.owns j d' hj
      exact ⟨a, by rw [← off (nn hj (by simp))]; exact k1, k2, k3, k4⟩
    · obtain ⟨k1, d', k2⟩ := s.iosv p hp
      exact ⟨by rw [← off (nn k2 (by simp))]; exact k1, d', k2⟩
    · have q := s.dist j k d1 d2 b hjk hj hk
      rw [off (nm hj), off (nm hk)] at q
      exact q
  have s0 := base hn s
  have len0 := s0.len
  have noIo : ∀ {vs : List Nat}, (∀ i ∈ vs, i ∈ own) → SR K F σ H (backE e1 e vs) G ∧ (∀ i d, i ∈ own → (backE e1 e vs)[i]? ≠ some (.io d)) := by
    intro vs
    induction vs with
    | nil => exact fun _ => ⟨s0, fun i d hi => by rw [show backE e1 e [] = e from rfl, hn i hi]; simp⟩
    | cons v vs ih =>
      intro hv
      obtain ⟨ih1, ih2⟩ := ih fun i hi => hv i (List.mem_cons_of_mem _ hi)
      unfold backE
      cases q : e1[v]? with
      | none => exact ⟨ih1, ih2⟩
      | some sl =>
        cases sl <;> first | exact ⟨ih1, ih2⟩ | skip
        rename_i d
        obtain ⟨w, k1, k2⟩ := s1 v d q
        have hvl : v < (backE e1 e vs).length := by
          have z : v < σ.length := (List.getElem?_eq_some_iff.mp k1).1
          rw [ih1.len]
          exact z
        have hset : setV (backE e1 e vs) v d = some ((backE e1 e vs).set v (.val d)) := by
          unfold setV
          have hx := List.getElem?_eq_getElem hvl
          rw [hx]
          cases z : (backE e1 e vs)[v] <;> first | rfl | exact absurd (by rw [hx, z]) (ih2 v _ (hv v List.mem_cons_self))
        have st := ih1.setv (k2.le g) hset
        have eσ : σ.set v (some w) = σ := by
          apply List.ext_getElem?
          intro j
          by_cases z : j = v
          · subst z
            rw [List.getElem?_set_self (List.getElem?_eq_some_iff.mp k1).1, k1]
          · rw [List.getElem?_set_ne (Ne.symm z)]
        rw [eσ] at st
        refine ⟨st, fun i d' hi => ?_⟩
        by_cases z : i = v
        · subst z
          show ((backE e1 e vs).set i (.val d))[i]? ≠ _
          rw [List.getElem?_set_self hvl]
          simp
        · show ((backE e1 e vs).set v (.val d))[i]? ≠ _
          rw [List.getElem?_set_ne (Ne.symm z)]
          exact ih2 i d' hi
  exact (noIo fun i hi => hi).1
end
end Tp
/-! Tp8: a list comprehension does what lcM says. -/
namespace Tp
open PySem PySem.Spec PyProof.Rows L2
def noW : WX := fun _ _ _ _ => False
theorem takes_no {X : Cx} : Takes X noW := fun u s' ⟨_, _, _, _, _, _, _, _, _, _, _, _, _, _, _, _, w⟩ => w.elim
theorem SR.wish {K : Fg} {F : Frm} {σ : L2.St} {H G : Hp} {e : Env} (s : SR K F σ H e G) (W : WX) : SR K { F with W := W } σ H e G :=
  ⟨s.le, s.len, s.vals, s.owns, s.iosl, s.iosv, s.dist, s.keep, s.gk, s.fresh, s.res⟩
theorem SR.unwish {K : Fg} {F : Frm} {σ : L2.St} {H G : Hp} {e : Env} {W : WX} (s : SR K { F with W := W } σ H e G) : SR K F σ H e G :=
  ⟨s.le, s.len, s.vals, s.owns, s.iosl, s.iosv, s.dist, s.keep, s.gk, s.fresh, s.res⟩
/-- the tests of a comprehension -/
def SC (T : ExcT) (X : Cx) (ifs : List Expr) (m : M Bool) : Prop := ∀ F : Frm, Takes X F.W → PTs X ifs (tX T X.K F rT m)
theorem PTs.weak {X : Cx} {e : List Expr} {t t' : TT} (h : PTs X e t) (w : ∀ σ H Q, t' σ H Q → t σ H Q) : PTs X e t' := ⟨fun pins s σ H Q I q => h.run pins s σ H Q I (w σ H Q q)⟩
theorem sc_nil {T : ExcT} {X : Cx} : SC T X [] (M.pure true) := fun F tk => PTs.weak pts_nil fun σ H Q ⟨e, G, s, q⟩ => q true H G s LeG.refl rfl
theorem sc_one {T : ExcT} {X : Cx} {c : Expr} {m : M Bool} (h : SB T X c m) : SC T X [c] m := fun F tk => pts_one (h F tk)
/-- without a wish about exceptions -/
def tXn (T : ExcT) (K : Fg) {α β : Type} (rel : L2.St → Hp → α → β → Prop) (m : M α) : L2.St → Hp → (β → Hp → Prop) → Prop := fun σ H Q => ∃ F : Frm, F.W = noW ∧ tX T K F rel m σ H Q
theorem SE.n {T : ExcT} {X : Cx} {ex : Expr} {m : M D} (h : SE T X ex m) : PE X ex (tXn T X.K (rE X.K) m) := ⟨fun pins s σ H Q I ⟨F, hF, q⟩ => (h F (by rw [hF]; exact takes_no)).run pins s σ H Q I q⟩
theorem SC.n {T : ExcT} {X : Cx} {ex : List Expr} {m : M Bool} (h : SC T X ex m) : PTs X ex (tXn T X.K rT m) := ⟨fun pins s σ H Q I ⟨F, hF, q⟩ => (h F (by rw [hF]; exact takes_no)).run pins s σ H Q I q⟩
def PureM {α : Type} (m : M α) : Prop := ∀ e a e', m e = .ok a e' → e' = e
def NoOwn (m : M Src) : Prop := ∀ e p e', m e = .ok p e' → p.2 = none
def SrcM (m : M Src) : Prop := ∀ e p e', m e = .ok p e' → srcAt p e'
theorem setV_off {e e' : Env} {i j : Nat} {d : D} (h : setV e i d = some e') (hj : j ≠ i) : e'[j]? = e[j]? := by
  unfold setV at h
  split at h
  · cases h
  · cases h
  · cases h
    exact List.getElem?_set_ne (Ne.symm hj)
theorem bindAll_off : ∀ {is : List Nat} {ds : List D} {e e' : Env} {j : Nat}, bindAll is ds e = some e' → j ∉ is → e'[j]? = e[j]?
  | [], [], e, e', j, h, _ => by rw [← Option.some.inj h]
  | i :: is, d :: ds, e, e', j, h, hj => by
    rw [List.mem_cons, not_or] at hj
    unfold bindAll at h
    cases hb : setV e i d with
    | none => rw [hb] at h; cases h
    | some e1 =>
      rw [hb] at h
      rw [bindAll_off (show bindAll is ds e1 = some e' from h) hj.2]
      exact setV_off hb hj.1
  | [], _ :: _, e, e', j, h, _ => by cases h
  | _ :: _, [], e, e', j, h, _ => by cases h
theorem Tgt.bind_off {t : Tgt} {d : D} {e e' : Env} {j : Nat} (h : t.bind d e = some e') (hj : j ∉ t.slots) : e'[j]? = e[j]? := by
  cases t with
  | one i => exact setV_off h (by simpa [Tgt.slots] using hj)
  | many is =>
    simp only [Tgt.bind] at h
    split at h
    · exact bindAll_off h hj
    · cases h
section
variable {T : ExcT} {X : Cx} {elt tg iter : Expr} {ifs : List Expr} {scope : Scope} {own : List (Str × Nat)} {pos : Pos} {mi : M Src} {t : Tgt} {mc : M Bool} {me : M D}
/-- what the loop of a comprehension needs -/
theorem lc_read (ht : ∀ i ∈ t.slots, i ∈ own.map (·.2)) (hsm : SrcM mi) (hp : NoOwn mi ∨ (PureM mc ∧ PureM me)) {F : Frm} {σ : L2.St} {H : Hp} {Q : VK} (h : tN T X.K F (lcM mi t (own.map (·.2)) mc me) σ H Q) :
    tLc (tX T X.K F (rI' X.K) mi) (gT X.K t)
      (tXn T X.K rT mc) (tXn T X.K (rE X.K) me) (own.map (·.2)) σ H Q := by
  obtain ⟨e, G, s, q⟩ := h
  refine ⟨e, G, s, ?_⟩
  -- is what is walked an own object?
  have hsrc : ∀ p e', mi e = .ok p e' → (p.2 = none ∨ (PureM mc ∧ PureM me)) ∧ srcAt p e' := fun p e' hm => ⟨hp.imp (fun h => h e p e' hm) id, hsm e p e' hm⟩
  have q0 : Aft T X.K F σ (rI' X.K σ) G (mi e) (fun J H1 => ∃ p e1 G1, ((p.2 = none ∨ (PureM mc ∧ PureM me)) ∧ srcAt p e1) ∧ SR X.K F σ H1 e1 G1 ∧ LeG G G1 ∧ rI' X.K σ G1 p J ∧
      AftN T X.K F σ G1 (if p.1.length ≤ sizeLine ∧ srcOk p (own.map (·.2)) = true then match (wipeE e1 (own.map (·.2))).bind (lcLoop t (own.map (·.2)) mc me p.1) with | some (ds, e2) => .ok (.list ds) (backE e1 e2 (own.map (·.2))) | none => .stuck else .stuck) Q) := by
    unfold lcM M.bind at q
    cases hm : mi e with
    | ok p e1 =>
      rw [hm] at q
      exact fun v H1 G1 s1 l1 r1 => ⟨p, e1, G1, hsrc p e1 hm, s1, l1, r1, q.weak l1⟩
    | exc c x e1 =>
      rw [hm] at q
      exact q
    | stuck =>
      rw [hm] at q
      exact q.elim
  refine q0.mono fun J H1 ⟨p, e1, G1, ⟨hsp, hsa⟩, s1, l1, ⟨S, wk, hS⟩, q1⟩ D nD => ?_
  split at q1
  · rename_i hz
    obtain ⟨hz, hok⟩ := hz
    cases hw : wipeE e1 (own.map (·.2)) with
    | none => rw [hw] at q1; exact q1.elim
    | some e2 =>
      rw [hw] at q1
      cases hl : lcLoop t (own.map (·.2)) mc me p.1 e2 with
      | none =>
        rw [show (some e2 : Option Env).bind (lcLoop t (own.map (·.2)) mc me p.1) = lcLoop t (own.map (·.2)) mc me p.1 e2 from rfl, hl] at q1
        exact q1.elim
      | some res =>
        obtain ⟨L, eF⟩ := res
        rw [show (some e2 : Option Env).bind (lcLoop t (own.map (·.2)) mc me p.1) = lcLoop t (own.map (·.2)) mc me p.1 e2 from rfl, hl] at q1
        have nR : ∀ q ∈ F.R, q.1 ≠ D := fun q hq z => by
          have := (s1.res q hq).1
          rw [z, nD] at this; cases this
        -- the invariant
        let Pv : Nat → Hp → Prop := fun i H => ∃ (acc : List PyData) (accv : List V) (e : Env) (G : Hp), SR X.K ((Frm.mk F.H0 F.G0 F.ios F.R noW).plus D (.lst accv)) (wipe σ (own.map (·.2))) H e G ∧ LeG G1 G ∧ RDs X.K G acc accv ∧
          acc.length ≤ i ∧ (∃ r, lcLoop t (own.map (·.2)) mc me (p.1.drop i) e = some (r, eF) ∧ acc ++ r = L) ∧ (∀ j, p.2 = some j → e[j]?.bind Slot.mine? = some (.list p.1)) ∧ ∀ j ∈ own.map (·.2), e[j]? = some Slot.no
        have srcIn : ∀ j, p.2 = some j → j ∉ own.map (·.2) := fun j hj => by
          unfold srcOk at hok
          rw [hj] at hok
          exact of_decide_eq_true hok
        have at1 : ∀ j, p.2 = some j → e1[j]?.bind Slot.mine? = some (.list p.1) → e2[j]?.bind Slot.mine? = some (.list p.1) := fun j hj h => by
          rw [wipeE_off hw (srcIn j hj)]; exact h
        have hSat : ∀ {F1 : Frm} {H : Hp} {e : Env} {G : Hp}, SR X.K F1 (wipe σ (own.map (·.2))) H e G → LeG G1 G → (∀ j, p.2 = some j → e[j]?.bind Slot.mine? = some (.list p.1)) → S G H := fun {F1 H e G} s l hm => by
          refine hS F1 _ H e G s l (fun j hj => by rw [wipe_get, if_neg (srcIn j hj)]) ?_
          unfold srcAt
          cases hj : p.2 with
          | none => trivial
          | some j => exact hm j hj
        -- whether the own object that is walked is there to begin with
        have h0 : ∀ j, p.2 = some j → e1[j]?.bind Slot.mine? = some (.list p.1) := fun j hj => by
          unfold srcAt at hsa
          rw [hj] at hsa
          exact hsa
        · have sD := (s1.wish noW).made (o := .lst []) nD
          have sD2 := sD.wiped hw
          have gD : G1 D = none := by
            cases z : G1 D with
            | none => rfl
            | some u => rw [s1.le D u z] at nD; cases nD
          refine ⟨fun i m H => m = p.1.length - i ∧ i ≤ p.1.length ∧ Pv i H, ⟨p.1.length, by simp, Nat.zero_le _, [], [], e2, G1, sD2, LeG.refl, .nil, Nat.le_refl _, ⟨L, by simpa using hl, rfl⟩, fun j hj => at1 j hj (h0 j hj), fun j hj => wipeE_no hw hj⟩, ?_⟩
          rintro i m H ⟨rfl, hi, acc, accv, e, G, sr, lg, rd, ha, ⟨r, hr, hL⟩, hmine, hno⟩
          by_cases hlt : i < p.1.length
          · refine .inr ⟨wk.goes i G H hlt sr.le (hSat sr lg hmine), Pv (i + 1), fun H' p' => ⟨p.1.length - (i + 1), by omega, rfl, hlt, p'⟩, fun x H' y => ?_⟩
            obtain ⟨d, Gx, hd, gr, rdx⟩ := wk.yields i G H x H' hlt sr.le (hSat sr lg hmine) y
            have hdrop : p.1.drop i = d :: p.1.drop (i + 1) := by
              obtain ⟨h1, h2⟩ := List.getElem?_eq_some_iff.mp hd
              rw [← h2]
              exact List.drop_eq_getElem_cons h1
            rw [hdrop] at hr
            unfold lcLoop at hr
            cases hb : t.bind d e with
            | none => rw [hb] at hr; cases hr
            | some e3 =>
              rw [hb] at hr
              simp only at hr
              refine ⟨_, d, e, e3, Gx, sr.grow gr, rdx, hb, fun σ2 s2 wp => ⟨?_, ?_⟩⟩
              · have := wp (own.map (·.2)) ht
                rw [this, wipe_wipe]
              · have wσ : wipe σ2 (own.map (·.2)) = wipe σ (own.map (·.2)) := by rw [wp (own.map (·.2)) ht, wipe_wipe]
                have m3 : ∀ j, p.2 = some j → e3[j]?.bind Slot.mine? = some (.list p.1) := fun j hj => by
                  rw [Tgt.bind_off hb fun z => srcIn j hj (ht j z)]
                  exact hmine j hj
                have hr' := hr
                refine ⟨_, rfl, e3, Gx, s2, ?_⟩
                cases hc : mc e3 with
                | stuck => rw [hc] at hr; cases hr
                | exc c x e4 => rw [hc] at hr; cases hr
                | ok b e4 =>
                  rw [hc] at hr
                  intro b' H3 G3 s3 l3 eb
                  have eb' : b = b' := eb
                  subst eb'
                  have m4 : ∀ j, p.2 = some j → e4[j]?.bind Slot.mine? = some (.list p.1) := fun j hj => by
                    rcases hsp with z | ⟨z, _⟩
                    · rw [z] at hj; cases hj
                    · rw [z _ _ _ hc]; exact m3 j hj
                  cases b with
                  | false =>
                    simp only at hr
                    rw [if_neg (by simp)]
                    cases hw4 : wipeE e4 (own.map (·.2)) with
                    | none => rw [hw4] at hr; cases hr
                    | some e6 =>
                      rw [hw4] at hr
                      have s6 := s3.wiped hw4
                      rw [wσ] at s6
                      exact ⟨acc, accv, e6, G3, s6, lg.trans (gr.g.trans l3), rd.le (gr.g.trans l3), Nat.le_succ_of_le ha, ⟨r, hr, hL⟩, fun j hj => by rw [wipeE_off hw4 (srcIn j hj)]; exact m4 j hj, fun j hj => wipeE_no hw4 hj⟩
                  | true =>
                    simp only at hr
                    rw [if_pos rfl]
                    refine ⟨_, rfl, e4, G3, s3, ?_⟩
                    cases hv : me e4 with
                    | stuck => rw [hv] at hr; cases hr
                    | exc c x e5 => rw [hv] at hr; cases hr
                    | ok dv e5 =>
                      rw [hv] at hr
                      simp only at hr
                      intro yv H4 G4 s4 l4 rdv
                      have m5 : ∀ j, p.2 = some j → e5[j]?.bind Slot.mine? = some (.list p.1) := fun j hj => by
                        rcases hsp with z | ⟨_, z⟩
                        · rw [z] at hj; cases hj
                        · rw [z _ _ _ hv]; exact m4 j hj
                      cases hw5 : wipeE e5 (own.map (·.2)) with
                      | none => rw [hw5] at hr; cases hr
                      | some e6 =>
                        rw [hw5] at hr
                        cases hr2 : lcLoop t (own.map (·.2)) mc me (p.1.drop (i + 1)) e6 with
                        | none =>
                          rw [show (some e6 : Option Env).bind (fun e6 => (lcLoop t (own.map (·.2)) mc me (p.1.drop (i + 1)) e6).map fun p => (dv :: p.1, p.2)) = (lcLoop t (own.map (·.2)) mc me (p.1.drop (i + 1)) e6).map (fun p => (dv :: p.1, p.2)) from rfl, hr2] at hr
                          cases hr
                        | some r2 =>
                          obtain ⟨r2, ef2⟩ := r2
                          rw [show (some e6 : Option Env).bind (fun e6 => (lcLoop t (own.map (·.2)) mc me (p.1.drop (i + 1)) e6).map fun p => (dv :: p.1, p.2)) = (lcLoop t (own.map (·.2)) mc me (p.1.drop (i + 1)) e6).map (fun p => (dv :: p.1, p.2)) from rfl, hr2] at hr
                          cases hr
                          have hD := (s4.res (D, .lst accv) List.mem_cons_self).1
                          refine ⟨accv, hD, by rw [← rd.length]; omega, ?_⟩
                          have s5 := SR.remade (o' := .lst (accv ++ [yv])) s4 nR
                          have s6 := s5.wiped hw5
                          rw [wσ] at s6
                          exact ⟨acc ++ [dv], accv ++ [yv], e6, G4, s6, lg.trans (gr.g.trans (l3.trans l4)), (rd.le (gr.g.trans (l3.trans l4))).app (.cons rdv .nil), by rw [List.length_append]; simp only [List.length_singleton]; omega,
                            ⟨r2, hr2, by rw [List.append_assoc]; exact hL⟩, fun j hj => by rw [wipeE_off hw5 (srcIn j hj)]; exact m5 j hj, fun j hj => wipeE_no hw5 hj⟩
          · have ei : i = p.1.length := by omega
            subst ei
            refine .inl ⟨wk.stops G H sr.le (hSat sr lg hmine), ?_⟩
            rw [List.drop_length] at hr
            unfold lcLoop at hr
            cases hr
            rw [List.append_nil] at hL
            subst hL
            have sb := SR.back (e1 := e1) s1.vals lg sr hno
            exact q1 D (.lst accv) H G nR (SR.unwish (W := noW) (F := F.plus D (.lst accv)) sb) lg ⟨(sr.res (D, .lst accv) List.mem_cons_self).2.1, accv, (sr.res (D, .lst accv) List.mem_cons_self).1, rd⟩
  · exact q1.elim
/-- the judgements of a block -/
structure BlkS (T : ExcT) (X : Cx) (scope : Scope) (elt tg : Expr) (ifs : List Expr) (t : Tgt) (mc : M Bool) (me : M D) : Prop where
  g : ∀ (s : Shared) (H : Hp) (C : Addr) (cl : List (Str × Addr)) (fp : List Addr), SG (X.blk s H scope (compEnvC scope cl C X.env) fp) tg t
  c : ∀ (s : Shared) (H : Hp) (C : Addr) (cl : List (Str × Addr)) (fp : List Addr), SC T (X.blk s H scope (compEnvC scope cl C X.env) fp) ifs mc
  e : ∀ (s : Shared) (H : Hp) (C : Addr) (cl : List (Str × Addr)) (fp : List Addr), SE T (X.blk s H scope (compEnvC scope cl C X.env) fp) elt me
def notSet : Expr → Bool
  | .Set .. => false
  | _ => true
theorem notSet_iter {e : Expr} {env : PySem.Env} (h : notSet e = true) : ∀ x, foldedSetIterable e env x = pure x := fun x => by
  cases e <;> first | rfl | cases h
theorem sn_lc (hc : X.calm = true) (hN : X.N.Nodup) (hi : SI T X tg iter mi) (hb : BlkS T X scope elt tg ifs t mc me) (ok : BlkOk X.N X.env.scope scope own) (ht : ∀ i ∈ t.slots, i ∈ own.map (·.2)) (hsm : SrcM mi) (hp : NoOwn mi ∨ (PureM mc ∧ PureM me)) (hs : notSet iter = true) :
    SN T X (.ListComp elt [⟨tg, iter, ifs, 0⟩] scope pos) (lcM mi t (own.map (·.2)) mc me) := fun F tk =>
  PE.weak (pe_lc (g := gT X.K t) (tt := tXn T X.K rT mc) (te := tXn T X.K (rE X.K) me) hc hN (hi F tk) ok (fun s H C cl fp => hb.g s H C cl fp) (fun s H C cl fp => (hb.c s H C cl fp).n) (fun s H C cl fp => (hb.e s H C cl fp).n) (notSet_iter hs)) fun σ H Q q => lc_read ht hsm hp q
end
end Tp
/-! Tp9: statements. -/
namespace Tp
open PySem PySem.Spec PyProof.Rows L2
inductive Out where
  | nx (e : Env)
  | rt (d : D) (e : Env)
  | bk (e : Env)
  | ct (e : Env)
  | exc (c : Nat) (x : D) (e : Env)
  | stuck
abbrev SM := Env → Out
/-- what an outcome of a statement promises; own: what is handed back is a new object -/
def AftS (T : ExcT) (K : Fg) (own : Bool) (F : Frm) (G : Hp) (o : Out) (D : Ends) : Prop :=
  match o with
  | .nx e => ∀ σ H' G', SR K F σ H' e G' → LeG G G' → D.nx σ H'
  | .bk e => ∀ σ H' G', SR K F σ H' e G' → LeG G G' → D.bk σ H'
  | .ct e => ∀ σ H' G', SR K F σ H' e G' → LeG G G' → D.ct σ H'
  | .rt d e => if own = true then ∀ p o σ H' G', (∀ q ∈ F.R, q.1 ≠ p) → SR K (F.plus p o) σ H' e G' → LeG G G' → OwnAt K G' H' p d → D.rt (.ref p) H' else ∀ v σ H' G', SR K F σ H' e G' → LeG G G' → RD K G' d v → D.rt v H'
  | .exc c x e => ∀ cls dd σ H' G', SR K F σ H' e G' → LeG G G' → ExcOk T K G' H' c x cls dd → F.W cls dd σ H'
  | .stuck => False
def tS (T : ExcT) (K : Fg) (own : Bool) (F : Frm) (m : SM) : TS := fun D σ H => ∃ e G, SR K F σ H e G ∧ AftS T K own F G (m e) D
def SS (T : ExcT) (X : Cx) (own : Bool) (st : Stmt) (m : SM) : Prop := ∀ F : Frm, Takes X F.W → PS X st (tS T X.K own F m)
def SSs (T : ExcT) (X : Cx) (own : Bool) (st : List Stmt) (m : SM) : Prop := ∀ F : Frm, Takes X F.W → PSs X st (tS T X.K own F m)
def seqM (a b : SM) : SM := fun e => match a e with | .nx e' => b e' | o => o
def nextM : SM := .nx
section
variable {T : ExcT} {K : Fg} {own : Bool} {F : Frm} {G G' : Hp} {D D' : Ends}
theorem AftS.weak {o : Out} (h : AftS T K own F G o D) (l : LeG G G') : AftS T K own F G' o D := by
  cases o with
  | nx e => exact fun σ H1 G1 s l1 => h σ H1 G1 s (l.trans l1)
  | bk e => exact fun σ H1 G1 s l1 => h σ H1 G1 s (l.trans l1)
  | ct e => exact fun σ H1 G1 s l1 => h σ H1 G1 s (l.trans l1)
  | rt d e =>
    cases own with
    | true => exact fun p o σ H1 G1 n s l1 r => h p o σ H1 G1 n s (l.trans l1) r
    | false => exact fun v σ H1 G1 s l1 r => h v σ H1 G1 s (l.trans l1) r
  | exc c x e => exact fun cls dd σ H1 G1 s l1 r => h cls dd σ H1 G1 s (l.trans l1) r
  | stuck => exact h.elim
/-- the ends may differ where the outcome is none of theirs -/
theorem AftS.ends {o : Out} (h : AftS T K own F G o D) (hn : ∀ e, o = .nx e → ∀ σ H G', SR K F σ H e G' → LeG G G' → D.nx σ H → D'.nx σ H) (hr : ∀ v H, D.rt v H → D'.rt v H) (hb : ∀ σ H, D.bk σ H → D'.bk σ H) (hc : ∀ σ H, D.ct σ H → D'.ct σ H) : AftS T K own F G o D' := by
  cases o with
  | nx e => exact fun σ H1 G1 s l1 => hn e rfl σ H1 G1 s l1 (h σ H1 G1 s l1)
  | bk e => exact fun σ H1 G1 s l1 => hb σ H1 (h σ H1 G1 s l1)
  | ct e => exact fun σ H1 G1 s l1 => hc σ H1 (h σ H1 G1 s l1)
  | rt d e =>
    cases own with
    | true => exact fun p o σ H1 G1 n s l1 r => hr _ _ (h p o σ H1 G1 n s l1 r)
    | false => exact fun v σ H1 G1 s l1 r => hr _ _ (h v σ H1 G1 s l1 r)
  | exc c x e => exact fun cls dd σ H1 G1 s l1 r => h cls dd σ H1 G1 s l1 r
  | stuck => exact h.elim
theorem AftS.seq {a b : SM} {e : Env} (h : AftS T K own F G (seqM a b e) D) : AftS T K own F G (a e) { D with nx := tS T K own F b D } := by
  unfold seqM at h
  cases ha : a e with
  | nx e1 =>
    rw [ha] at h
    exact fun σ H1 G1 s l1 => ⟨e1, G1, s, h.weak l1⟩
  | bk e1 => rw [ha] at h; exact h
  | ct e1 => rw [ha] at h; exact h
  | rt d e1 => rw [ha] at h; exact h
  | exc c x e1 => rw [ha] at h; exact h
  | stuck => rw [ha] at h; exact h
end
/-- a statement by an expression's outcome -/
def onV (m : M D) (k : D → SM) : SM := fun e => match m e with | .ok d e' => k d e' | .exc c x e' => .exc c x e' | .stuck => .stuck
def onB (m : M Bool) (k : Bool → SM) : SM := fun e => match m e with | .ok d e' => k d e' | .exc c x e' => .exc c x e' | .stuck => .stuck
section
variable {T : ExcT} {K : Fg} {own : Bool} {F : Frm} {σ : L2.St} {G : Hp} {D : Ends} {e : Env}
theorem AftS.onV {m : M PyData} {k : PyData → SM} (h : AftS T K own F G (Tp.onV m k e) D) : Aft T K F σ (rE K σ) G (m e) (fun v H1 => ∃ d e1 G1, SR K F σ H1 e1 G1 ∧ LeG G G1 ∧ RD K G1 d v ∧ AftS T K own F G1 (k d e1) D) := by
  unfold Tp.onV at h
  cases hm : m e with
  | ok d e1 =>
    rw [hm] at h
    exact fun v H1 G1 s l r => ⟨d, e1, G1, s, l, r, h.weak l⟩
  | exc c x e1 =>
    rw [hm] at h
    exact fun cls dd H1 G1 s l r => h cls dd σ H1 G1 s l r
  | stuck => rw [hm] at h; exact h.elim
theorem AftS.onN {m : M PyData} {k : PyData → SM} (h : AftS T K own F G (Tp.onV m k e) D) : AftN T K F σ G (m e) (fun v H1 => ∃ d e1 G1 p o, v = .ref p ∧ (∀ q ∈ F.R, q.1 ≠ p) ∧ SR K (F.plus p o) σ H1 e1 G1 ∧ LeG G G1 ∧ OwnAt K G1 H1 p d ∧ AftS T K own F G1 (k d e1) D) := by
  unfold Tp.onV at h
  cases hm : m e with
  | ok d e1 =>
    rw [hm] at h
    exact fun p o H1 G1 n s l r => ⟨d, e1, G1, p, o, rfl, n, s, l, r, h.weak l⟩
  | exc c x e1 =>
    rw [hm] at h
    exact fun cls dd H1 G1 s l r => h cls dd σ H1 G1 s l r
  | stuck => rw [hm] at h; exact h.elim
theorem AftS.onB {m : M Bool} {k : Bool → SM} (h : AftS T K own F G (Tp.onB m k e) D) : Aft T K F σ (rT σ) G (m e) (fun b H1 => ∃ e1 G1, SR K F σ H1 e1 G1 ∧ LeG G G1 ∧ AftS T K own F G1 (k b e1) D) := by
  unfold Tp.onB at h
  cases hm : m e with
  | ok d e1 =>
    rw [hm] at h
    exact fun v H1 G1 s l r => by
      have z : d = v := r
      subst z
      exact ⟨e1, G1, s, l, h.weak l⟩
  | exc c x e1 =>
    rw [hm] at h
    exact fun cls dd H1 G1 s l r => h cls dd σ H1 G1 s l r
  | stuck => rw [hm] at h; exact h.elim
end
/-! ### small ones -/
section
variable {T : ExcT} {X : Cx} {own : Bool} {st : Stmt} {sts : List Stmt} {a b : SM} {ex : Expr} {m : M D} {pos : Pos}
theorem sss_nil : SSs T X own [] nextM := fun F tk => PSs.weak pss_nil fun D σ H ⟨e, G, s, q⟩ => q σ H G s LeG.refl
theorem sss_cons (h : SS T X own st a) (h' : SSs T X own sts b) : SSs T X own (st :: sts) (seqM a b) := fun F tk => PSs.weak (pss_cons (h F tk) (h' F tk)) fun D σ H ⟨e, G, s, q⟩ => ⟨e, G, s, q.seq⟩
theorem ss_pass : SS T X own (.Pass pos) nextM := fun F tk => PS.weak ps_pass fun D σ H ⟨e, G, s, q⟩ => q σ H G s LeG.refl
theorem ss_break : SS T X own (.Break pos) .bk := fun F tk => PS.weak ps_break fun D σ H ⟨e, G, s, q⟩ => q σ H G s LeG.refl
theorem ss_cont : SS T X own (.Continue pos) .ct := fun F tk => PS.weak ps_continue fun D σ H ⟨e, G, s, q⟩ => q σ H G s LeG.refl
theorem ss_never : SS T X own st (fun _ => .stuck) := fun F tk => PS.weak ps_never fun D σ H ⟨e, G, s, q⟩ => q
theorem ss_ret (h : SE T X ex m) : SS T X false (.Return (some ex) pos) (onV m .rt) := fun F tk => PS.weak (ps_ret (h F tk)) fun D σ H ⟨e, G, s, q⟩ => by
  refine ⟨e, G, s, (AftS.onV (σ := σ) q).mono fun v H1 ⟨d, e1, G1, s1, l1, r1, q1⟩ => ?_⟩
  exact q1 v σ H1 G1 s1 LeG.refl r1
theorem ss_retN (h : SN T X ex m) : SS T X true (.Return (some ex) pos) (onV m .rt) := fun F tk => PS.weak (ps_ret (h F tk)) fun D σ H ⟨e, G, s, q⟩ => by
  refine ⟨e, G, s, (AftS.onN (σ := σ) q).mono fun v H1 ⟨d, e1, G1, p, o, ev, n, s1, l1, r1, q1⟩ => ?_⟩
  subst ev
  exact q1 p o σ H1 G1 n s1 LeG.refl r1
theorem ss_ret0 : SS T X false (.Return none pos) (.rt .none) := fun F tk => PS.weak ps_retN fun D σ H ⟨e, G, s, q⟩ => q .non σ H G s LeG.refl .non
def notComp : Expr → Bool
  | .ListComp .. => false
  | .SetComp .. => false
  | .DictComp .. => false
  | _ => true
theorem swaps_not {e : Expr} {t : Option Expr} {l : Nat} {env : PySem.Env} (h : notComp e = true) : swapsWith e t l env = pure false := by
  cases e <;> first | rfl | cases h
theorem ss_expr (h : SE T X ex m) (hn : notComp ex = true) : SS T X own (.Expr ex pos) (onV m fun _ => .nx) := fun F tk => PS.weak (ps_expr (h F tk) (swaps_not hn)) fun D σ H ⟨e, G, s, q⟩ => by
  refine ⟨e, G, s, (AftS.onV (σ := σ) q).mono fun v H1 ⟨d, e1, G1, s1, l1, r1, q1⟩ => ?_⟩
  exact q1 σ H1 G1 s1 LeG.refl
theorem ss_if {c : Expr} {sa sb : List Stmt} {mc : M Bool} (hc : SB T X c mc) (ha : SSs T X own sa a) (hb : SSs T X own sb b) : SS T X own (.If c sa sb pos) (onB mc fun k => if k then a else b) := fun F tk =>
  PS.weak (ps_if (hc F tk) (ha F tk) (hb F tk)) fun D σ H ⟨e, G, s, q⟩ => by
  refine ⟨e, G, s, (AftS.onB (σ := σ) q).mono fun k H1 ⟨e1, G1, s1, l1, q1⟩ => ?_⟩
  cases k with
  | true => exact ⟨e1, G1, s1, q1⟩
  | false => exact ⟨e1, G1, s1, q1⟩
end
/-! ### assignments -/
def setO (e : Env) (i : Nat) (d : D) : Option Env := match e[i]? with | none => none | some (.io _) => none | some _ => some (e.set i (.own d))
theorem SR.seto {K : Fg} {F : Frm} {σ : L2.St} {H G : Hp} {e e' : Env} {p : Addr} {o : HO} (hne : ∀ q ∈ F.R, q.1 ≠ p) (s : SR K (F.plus p o) σ H e G) {i : Nat} {d : D} (ow : OwnAt K G H p d) (h : setO e i d = some e') : SR K F (σ.set i (some (.ref p))) H e' G := by
  have s0 := s.unplus
  unfold setO at h
  cases q : e[i]? with
  | none => rw [q] at h; cases h
  | some sl =>
    have nio : ∀ d', sl ≠ .io d' := fun d' z => by subst z; rw [q] at h; cases h
    have he : e' = e.set i (.own d) := by
      rw [q] at h
      cases sl <;> first | exact (Option.some.inj h).symm | exact absurd rfl (nio _)
    subst he
    have hi : i < e.length := (List.getElem?_eq_some_iff.mp q).1
    have hi' : i < σ.length := by rw [← s.len]; exact hi
    have off : ∀ {j : Nat}, j ≠ i → (e.set i (.own d))[j]? = e[j]? := fun {j} hj => List.getElem?_set_ne (Ne.symm hj)
    have offσ : ∀ {j : Nat}, j ≠ i → (σ.set i (some (.ref p)))[j]? = σ[j]? := fun {j} hj => List.getElem?_set_ne (Ne.symm hj)
    have own : (e.set i (.own d))[i]? = some (.own d) := List.getElem?_set_self hi
    have ownσ : (σ.set i (some (V.ref p)))[i]? = some (some (.ref p)) := List.getElem?_set_self hi'
    obtain ⟨p1, p2, p3⟩ := s.res (p, o) List.mem_cons_self
    -- an own object of another slot is another object
    have apart : ∀ {j : Nat} {d' : D} {a : Addr}, j ≠ i → e[j]?.bind Slot.mine? = some d' → σ[j]? = some (some (.ref a)) → a ≠ p := fun {j d' a} hj hm hs z => by
      subst z
      obtain ⟨a2, k1, _, k3, _⟩ := s.mine hm
      rw [hs] at k1
      have : a = a2 := by
        injection k1 with k1
        injection k1 with k1
        injection k1
      exact k3 (a, o) List.mem_cons_self this
    refine ⟨s.le, by rw [List.length_set, List.length_set]; exact s.len, fun j d' hj => ?_, fun j d' hj => ?_, fun j d' hj => ?_, fun q' hp => ?_, fun j k d1 d2 b hjk hj hk => ?_, s.keep, s.gk, s.fresh, s0.res⟩
    · have z : j ≠ i := fun z => by subst z; rw [own] at hj; cases hj
      rw [off z] at hj
      obtain ⟨w, k1, k2⟩ := s.vals j d' hj
      exact ⟨w, by rw [offσ z]; exact k1, k2⟩
    · by_cases z : j = i
      · subst z
        rw [own] at hj
        have : d = d' := by injection hj with hj; injection hj
        subst this
        exact ⟨p, ownσ, ow, p3, fun r hr z => by
          -- what else is in the making is another object
          have := (s.res r (List.mem_cons_of_mem _ hr))
          exact (hne r hr z).elim⟩
      · rw [off z] at hj
        obtain ⟨a, k1, k2, k3, k4⟩ := s0.owns j d' hj
        exact ⟨a, by rw [offσ z]; exact k1, k2, k3, k4⟩
    · have z : j ≠ i := fun z => by subst z; rw [own] at hj; cases hj
      rw [off z] at hj
      exact s0.iosl j d' hj
    · obtain ⟨k1, d', k2⟩ := s.iosv q' hp
      have z : q'.1 ≠ i := fun z => by rw [z, q] at k2; exact nio d' (Option.some.inj k2)
      exact ⟨by rw [offσ z]; exact k1, d', by rw [off z]; exact k2⟩
    · by_cases z1 : j = i
      · subst z1
        have z2 : k ≠ j := fun z => hjk z.symm
        rw [off z2] at hk
        rw [ownσ, offσ z2]
        intro e1 e2
        have eb : p = b := by
          injection e1 with e1
          injection e1 with e1
          injection e1
        subst eb
        exact apart z2 hk e2 rfl
      · rw [off z1] at hj
        by_cases z2 : k = i
        · subst z2
          rw [ownσ, offσ z1]
          intro e1 e2
          have eb : p = b := by
            injection e2 with e2
            injection e2 with e2
            injection e2
          subst eb
          exact apart z1 hj e1 rfl
        · rw [off z2] at hk
          rw [offσ z1, offσ z2]
          exact s.dist j k d1 d2 b hjk hj hk
end Tp
/-! Tp10: assignments, changes of own objects, loops. -/
namespace Tp
open PySem PySem.Spec PyProof.Rows L2
def liftE (o : Option Env) : Out := match o with | some e => .nx e | none => .stuck
section
variable {T : ExcT} {X : Cx} {own : Bool} {ex tg : Expr} {m : M D} {t : Tgt} {pos : Pos} {i : Nat} {x : Str} {px : Pos}
def isTup : Expr → Bool
  | .Tuple .. => true
  | .List .. => true
  | _ => false
theorem swaps_sole {tg e : Expr} {l : Nat} {env : PySem.Env} (h : notComp e = true) : swapsWithSole [tg] e l env = pure false := by
  show swapsWith e (some tg) l env = pure false
  exact swaps_not h
theorem stores_not {tg e : Expr} {env : PySem.Env} (h : isTup e = false ∨ isTup tg = false) : swappedStores [tg] e env = pure none := by
  rcases h with h | h
  · cases e <;> first | (cases tg <;> rfl) | cases h
  · cases tg <;> first | (cases e <;> rfl) | cases h
theorem assign_one {tg : Expr} {env : PySem.Env} (h : notStar tg = true) : (assignEach [tg] env).map (fun x => x.2) = [assign tg env] := by
  cases tg <;> first | rfl | cases h
theorem ss_asg (he : SE T X ex m) (hg : SG X tg t) (hn : swapsWith ex (some tg) pos.line X.env = pure false) (ns : notStar tg = true) (ht : swappedStores [tg] ex X.env = pure none) : SS T X own (.Assign [tg] ex pos) (onV m fun d e => liftE (t.bind d e)) := fun F tk =>
  PS.weak (ps_asg (he F tk) hg hn ht (assign_one ns)) fun D σ H ⟨e, G, s, q⟩ => by
  refine ⟨e, G, s, (AftS.onV (σ := σ) q).mono fun v H1 ⟨d, e1, G1, s1, l1, r1, q1⟩ => ?_⟩
  cases hb : t.bind d e1 with
  | none => rw [hb] at q1; exact q1.elim
  | some e2 =>
    rw [hb] at q1
    exact ⟨F, d, e1, e2, G1, s1, r1, hb, fun σ' s' _ => q1 σ' H1 G1 s' LeG.refl⟩
/-- a new object of this frame's own -/
theorem ss_asgO (he : SN T X ex m) (hN : X.N.Nodup) (hi : X.N[i]? = some x) (hx : Loc X.env.scope x) (hf : X.fn x = true ∨ X.env.scope.names.lookup x = some .local) (hn : swapsWith ex (some (.Name x px)) pos.line X.env = pure false) : SS T X own (.Assign [.Name x px] ex pos) (onV m fun d e => liftE (setO e i d)) := fun F tk =>
  PS.weak (ps_set hN hi hx (he F tk) hn hf) fun D σ H ⟨e, G, s, q⟩ => by
  refine ⟨e, G, s, (AftS.onN (σ := σ) q).mono fun v H1 ⟨d, e1, G1, p, o, ev, n, s1, l1, r1, q1⟩ => ?_⟩
  subst ev
  cases hb : setO e1 i d with
  | none => rw [hb] at q1; exact q1.elim
  | some e2 =>
    rw [hb] at q1
    exact q1 _ H1 G1 (SR.seto n s1 r1 hb) LeG.refl
section
variable {elt iter tgc : Expr} {ifs : List Expr} {scope : Scope} {cown : List (Str × Nat)} {cpos : Pos} {mi : M Src} {ct : Tgt} {mc : M Bool} {me : M D}
/-- name = [..], the name a local: the list may be known at once, or stay an object of one's own -/
theorem ss_lc (hc : X.calm = true) (hN : X.N.Nodup) (hi : X.N[i]? = some x) (hx : X.env.scope.names.lookup x = some .local)
    (hsw : swapsWith (.ListComp elt [⟨tgc, iter, ifs, 0⟩] scope cpos) (some (.Name x px)) pos.line X.env = pure true)
    (hit : SI T X tgc iter mi) (hb : BlkS T X scope elt tgc ifs ct mc me) (ok : BlkOk X.N X.env.scope scope cown) (ht : ∀ i ∈ ct.slots, i ∈ cown.map (·.2)) (hsm : SrcM mi) (hp : NoOwn mi ∨ (PureM mc ∧ PureM me)) (hs : notSet iter = true) :
    SS T X own (.Assign [.Name x px] (.ListComp elt [⟨tgc, iter, ifs, 0⟩] scope cpos) pos) (onV (lcM mi ct (cown.map (·.2)) mc me) fun d e => liftE (setV e i d)) := fun F tk =>
  PS.weak (ps_setLc (g := gT X.K ct) (tt := tXn T X.K rT mc) (te := tXn T X.K (rE X.K) me) hc hN hi hx hsw (hit F tk) ok (fun s H C cl fp => hb.g s H C cl fp) (fun s H C cl fp => (hb.c s H C cl fp).n) (fun s H C cl fp => (hb.e s H C cl fp).n) (notSet_iter hs)) fun D σ H ⟨e, G, s, q⟩ => by
  refine lc_read ht hsm hp ⟨e, G, s, (AftS.onN (σ := σ) q).mono fun v H1 ⟨d, e1, G1, p, o, ev, n, s1, l1, r1, q1⟩ => ?_⟩
  subst ev
  obtain ⟨s2, l2⟩ := s1.froze n
  have rd := r1.rd (s1.res (p, o) List.mem_cons_self).1 l2
  cases hb : setV e1 i d with
  | none => rw [hb] at q1; exact q1.elim
  | some e2 =>
    rw [hb] at q1
    exact q1 _ H1 _ (s2.setv rd hb) l2
theorem ss_lcO (hc : X.calm = true) (hN : X.N.Nodup) (hi : X.N[i]? = some x) (hx : X.env.scope.names.lookup x = some .local)
    (hsw : swapsWith (.ListComp elt [⟨tgc, iter, ifs, 0⟩] scope cpos) (some (.Name x px)) pos.line X.env = pure true)
    (hit : SI T X tgc iter mi) (hb : BlkS T X scope elt tgc ifs ct mc me) (ok : BlkOk X.N X.env.scope scope cown) (ht : ∀ i ∈ ct.slots, i ∈ cown.map (·.2)) (hsm : SrcM mi) (hp : NoOwn mi ∨ (PureM mc ∧ PureM me)) (hs : notSet iter = true) :
    SS T X own (.Assign [.Name x px] (.ListComp elt [⟨tgc, iter, ifs, 0⟩] scope cpos) pos) (onV (lcM mi ct (cown.map (·.2)) mc me) fun d e => liftE (setO e i d)) := fun F tk =>
  PS.weak (ps_setLc (g := gT X.K ct) (tt := tXn T X.K rT mc) (te := tXn T X.K (rE X.K) me) hc hN hi hx hsw (hit F tk) ok (fun s H C cl fp => hb.g s H C cl fp) (fun s H C cl fp => (hb.c s H C cl fp).n) (fun s H C cl fp => (hb.e s H C cl fp).n) (notSet_iter hs)) fun D σ H ⟨e, G, s, q⟩ => by
  refine lc_read ht hsm hp ⟨e, G, s, (AftS.onN (σ := σ) q).mono fun v H1 ⟨d, e1, G1, p, o, ev, n, s1, l1, r1, q1⟩ => ?_⟩
  subst ev
  cases hb : setO e1 i d with
  | none => rw [hb] at q1; exact q1.elim
  | some e2 =>
    rw [hb] at q1
    exact q1 _ H1 _ (SR.seto n s1 r1 hb) LeG.refl
end
/-! ### a, b = x, y -/
/-- for any frame -/
def tXa (T : ExcT) (X : Cx) {α β : Type} (rel : L2.St → Hp → α → β → Prop) (m : M α) : L2.St → Hp → (β → Hp → Prop) → Prop := fun σ H Q => ∃ F : Frm, Takes X F.W ∧ tX T X.K F rel m σ H Q
def tNa (T : ExcT) (X : Cx) (m : M D) : TE := fun σ H Q => ∃ F : Frm, Takes X F.W ∧ tN T X.K F m σ H Q
theorem SE.a (h : SE T X ex m) : PE X ex (tXa T X (rE X.K) m) := ⟨fun pins s σ H Q I ⟨F, tk, q⟩ => (h F tk).run pins s σ H Q I q⟩
theorem SN.a (h : SN T X ex m) : PE X ex (tNa T X m) := ⟨fun pins s σ H Q I ⟨F, tk, q⟩ => (h F tk).run pins s σ H Q I q⟩
/-- a part of a parallel assignment: a value, or a new object -/
def SVO (T : ExcT) (X : Cx) (o : Bool) (ex : Expr) (m : M D) : Prop := if o = true then SN T X ex m else SE T X ex m
def tVO (T : ExcT) (X : Cx) (o : Bool) (m : M D) : TE := if o = true then tNa T X m else tXa T X (rE X.K) m
theorem SVO.pe {o : Bool} (h : SVO T X o ex m) : PE X ex (tVO T X o m) := by
  unfold SVO at h
  unfold tVO
  cases o with
  | true => exact h.a
  | false => exact h.a
def putVO (o : Bool) (e : Env) (i : Nat) (d : D) : Option Env := if o = true then setO e i d else setV e i d
def par2 (o1 o2 : Bool) (i j : Nat) (m1 m2 : M D) : SM := onV m1 fun d1 => onV m2 fun d2 e => liftE ((putVO o2 e j d2).bind fun e' => putVO o1 e' i d1)
/-- what is in the hand: a value, or an object in the making -/
def Hand (K : Fg) (F : Frm) (o : Bool) (F' : Frm) (G H : Hp) (d : D) (v : V) : Prop :=
  if o = true then ∃ p ob, v = .ref p ∧ F' = F.plus p ob ∧ (∀ q ∈ F.R, q.1 ≠ p) ∧ OwnAt K G H p d else F' = F ∧ RD K G d v
theorem Hand.put {K : Fg} {F F' : Frm} {o : Bool} {G H : Hp} {d : D} {v : V} {σ : L2.St} {e e' : Env} (h : Hand K F o F' G H d v) (s : SR K F' σ H e G) (hp : putVO o e i d = some e') : SR K F (σ.set i (some v)) H e' G := by
  unfold Hand at h
  unfold putVO at hp
  cases o with
  | true =>
    obtain ⟨p, ob, rfl, rfl, n, ow⟩ := h
    exact SR.seto n s ow hp
  | false =>
    obtain ⟨rfl, r⟩ := h
    exact s.setv r hp
theorem Hand.later {K : Fg} {F F' : Frm} {o : Bool} {G H G' H' : Hp} {d : D} {v : V} {σ : L2.St} {e : Env} (h : Hand K F o F' G H d v) (s0 : SR K F' σ H e G) {e1 : Env} (s : SR K F' σ H' e1 G') (l : LeG G G') : Hand K F o F' G' H' d v := by
  unfold Hand at h ⊢
  cases o with
  | true =>
    obtain ⟨p, ob, rfl, rfl, n, ow⟩ := h
    refine ⟨p, ob, rfl, rfl, n, ow.mono l (s.res (p, ob) List.mem_cons_self).2.1 fun u q => ?_⟩
    rw [(s0.res (p, ob) List.mem_cons_self).1] at q
    rw [(s.res (p, ob) List.mem_cons_self).1]
    exact q
  | false =>
    obtain ⟨rfl, r⟩ := h
    exact ⟨rfl, RD.le l r⟩
theorem Hand.w {K : Fg} {F F' : Frm} {o : Bool} {G H : Hp} {d : D} {v : V} (h : Hand K F o F' G H d v) : F'.W = F.W ∧ (∀ {σ : L2.St} {H1 : Hp} {e1 : Env} {G1 : Hp}, SR K F' σ H1 e1 G1 → SR K F σ H1 e1 G1) := by
  unfold Hand at h
  cases o with
  | true =>
    obtain ⟨p, ob, rfl, rfl, n, ow⟩ := h
    exact ⟨rfl, fun s => s.unplus⟩
  | false =>
    obtain ⟨rfl, r⟩ := h
    exact ⟨rfl, fun s => s⟩
theorem tVO_of {o : Bool} {F : Frm} (tk : Takes X F.W) {σ : L2.St} {H G : Hp} {e : Env} {D : Ends} (s : SR X.K F σ H e G) {k : PyData → SM} {ow : Bool} {F0 : Frm}
    (hF : ∀ {H1 : Hp} {e1 : Env} {G1 : Hp}, SR X.K F σ H1 e1 G1 → SR X.K F0 σ H1 e1 G1) (hW : F.W = F0.W)
    (q : AftS T X.K ow F0 G (onV m k e) D) {Q : VK} (hq : ∀ v H1 d e1 G1 F', Hand X.K F o F' G1 H1 d v → SR X.K F' σ H1 e1 G1 → LeG G G1 → AftS T X.K ow F0 G1 (k d e1) D → Q v H1) : tVO T X o m σ H Q := by
  unfold tVO
  unfold onV at q
  cases o with
  | true =>
    refine ⟨F, tk, e, G, s, ?_⟩
    unfold AftN
    cases hm : m e with
    | ok d e1 =>
      rw [hm] at q
      exact fun p ob H1 G1 n s1 l1 ow1 => hq _ H1 d e1 G1 (F.plus p ob) ⟨p, ob, rfl, rfl, n, ow1⟩ s1 l1 (q.weak l1)
    | exc c x e1 =>
      rw [hm] at q
      exact fun cls dd H1 G1 s1 l1 r1 => by rw [hW]; exact q cls dd σ H1 G1 (hF s1) l1 r1
    | stuck => rw [hm] at q; exact q.elim
  | false =>
    refine ⟨F, tk, e, G, s, ?_⟩
    unfold Aft
    cases hm : m e with
    | ok d e1 =>
      rw [hm] at q
      exact fun v H1 G1 s1 l1 r1 => hq v H1 d e1 G1 F ⟨rfl, r1⟩ s1 l1 (q.weak l1)
    | exc c x e1 =>
      rw [hm] at q
      exact fun cls dd H1 G1 s1 l1 r1 => by rw [hW]; exact q cls dd σ H1 G1 (hF s1) l1 r1
    | stuck => rw [hm] at q; exact q.elim
theorem ss_par2 {o1 o2 : Bool} {a b : Expr} {m1 m2 : M D} {i j : Nat} {x y : Str} {px py pt pt2 : Pos} {kt k2 : Nat} (h1 : SVO T X o1 a m1) (h2 : SVO T X o2 b m2) (hc : X.calm = true) (hN : X.N.Nodup) (hi : X.N[i]? = some x) (hj : X.N[j]? = some y) (hij : i ≠ j)
    (hx : X.env.scope.names.lookup x = some .local) (hy : X.env.scope.names.lookup y = some .local) (na : notStar a = true) (nb : notStar b = true)
    (hw : swappedStores [.Tuple [.Name x px, .Name y py] kt pt] (.Tuple [a, b] k2 pt2) X.env = pure (some [x, y])) :
    SS T X own (.Assign [.Tuple [.Name x px, .Name y py] kt pt] (.Tuple [a, b] k2 pt2) pos) (par2 o1 o2 i j m1 m2) := fun F tk =>
  PS.weak (ps_par hc hN hi hj hij hx hy (pa_cons h1.pe (pa_cons h2.pe pa_nil (star_cons nb)) (star_cons na)) hw rfl) fun D σ H ⟨e, G, s, q⟩ => by
  refine tVO_of (F := F) (F0 := F) tk s (fun s => s) rfl q fun v H1 d1 e1 G1 F1 hd1 s1 l1 q1 => ?_
  refine tVO_of (F := F1) (F0 := F) (by rw [hd1.w.1]; exact tk) s1 (fun s => hd1.w.2 s) hd1.w.1 q1 fun w H2 d2 e2 G2 F2 hd2 s2 l2 q2 => ?_
  refine ⟨v, w, rfl, ?_⟩
  have hl := hd1.later s1 (hd2.w.2 s2) l2
  cases hp1 : putVO o2 e2 j d2 with
  | none => rw [hp1] at q2; exact q2.elim
  | some e3 =>
    cases hp2 : putVO o1 e3 i d1 with
    | none => rw [hp1, show (some e3 : Option Env).bind (fun e' => putVO o1 e' i d1) = putVO o1 e3 i d1 from rfl, hp2] at q2; exact q2.elim
    | some e4 =>
      rw [hp1, show (some e3 : Option Env).bind (fun e' => putVO o1 e' i d1) = putVO o1 e3 i d1 from rfl, hp2] at q2
      have s3 := hd2.put s2 hp1
      have s4 := hl.put s3 hp2
      rw [List.set_comm _ _ (Ne.symm hij)] at s4
      exact q2 _ H2 G2 s4 LeG.refl
def par3 (o1 o2 o3 : Bool) (i j l : Nat) (m1 m2 m3 : M D) : SM := onV m1 fun d1 => onV m2 fun d2 => onV m3 fun d3 e => liftE (((putVO o3 e l d3).bind fun e' => putVO o2 e' j d2).bind fun e' => putVO o1 e' i d1)
theorem ss_par3 {o1 o2 o3 : Bool} {a b c : Expr} {m1 m2 m3 : M D} {i j l : Nat} {x y z : Str} {px py pz pt pt2 : Pos} {kt k2 : Nat} (h1 : SVO T X o1 a m1) (h2 : SVO T X o2 b m2) (h3 : SVO T X o3 c m3) (hc : X.calm = true) (hN : X.N.Nodup) (hi : X.N[i]? = some x) (hj : X.N[j]? = some y) (hl : X.N[l]? = some z) (hij : i ≠ j) (hil : i ≠ l) (hjl : j ≠ l)
    (hx : X.env.scope.names.lookup x = some .local) (hy : X.env.scope.names.lookup y = some .local) (hz : X.env.scope.names.lookup z = some .local) (na : notStar a = true) (nb : notStar b = true) (nc : notStar c = true)
    (hw : swappedStores [.Tuple [.Name x px, .Name y py, .Name z pz] kt pt] (.Tuple [a, b, c] k2 pt2) X.env = pure (some [x, y, z])) :
    SS T X own (.Assign [.Tuple [.Name x px, .Name y py, .Name z pz] kt pt] (.Tuple [a, b, c] k2 pt2) pos) (par3 o1 o2 o3 i j l m1 m2 m3) := fun F tk =>
  PS.weak (ps_par3 hc hN hi hj hl hij hil hjl hx hy hz (pa_cons h1.pe (pa_cons h2.pe (pa_cons h3.pe pa_nil (star_cons nc)) (star_cons nb)) (star_cons na)) hw rfl) fun D σ H ⟨e, G, s, q⟩ => by
  refine tVO_of (F := F) (F0 := F) tk s (fun s => s) rfl q fun v H1 d1 e1 G1 F1 hd1 s1 l1 q1 => ?_
  refine tVO_of (F := F1) (F0 := F) (by rw [hd1.w.1]; exact tk) s1 (fun s => hd1.w.2 s) hd1.w.1 q1 fun w H2 d2 e2 G2 F2 hd2 s2 l2 q2 => ?_
  refine tVO_of (F := F2) (F0 := F) (by rw [hd2.w.1, hd1.w.1]; exact tk) s2 (fun s => hd1.w.2 (hd2.w.2 s)) (by rw [hd2.w.1, hd1.w.1]) q2 fun t H3 d3 e3 G3 F3 hd3 s3 l3 q3 => ?_
  refine ⟨v, w, t, rfl, ?_⟩
  have k1 := (hd1.later s1 (hd2.w.2 s2) l2).later (hd2.w.2 s2) (hd2.w.2 (hd3.w.2 s3)) l3
  have k2 := hd2.later s2 (hd3.w.2 s3) l3
  cases hp1 : putVO o3 e3 l d3 with
  | none => simp only [hp1, Option.bind_none] at q3; exact q3.elim
  | some e4 =>
    cases hp2 : putVO o2 e4 j d2 with
    | none => simp only [hp1, hp2, Option.bind_some, Option.bind_none] at q3; exact q3.elim
    | some e5 =>
      cases hp3 : putVO o1 e5 i d1 with
      | none => simp only [hp1, hp2, hp3, Option.bind_some] at q3; exact q3.elim
      | some e6 =>
        simp only [hp1, hp2, hp3, Option.bind_some] at q3
        have t3 := hd3.put s3 hp1
        have t4 := k2.put t3 hp2
        have t5 := k1.put t4 hp3
        rw [List.set_comm _ _ (show j ≠ i from Ne.symm hij), List.set_comm (l := σ) _ _ (show l ≠ i from Ne.symm hil), List.set_comm _ _ (show l ≠ j from Ne.symm hjl)] at t5
        exact q3 _ H3 G3 t5 LeG.refl
end
end Tp
/-! Tp11: changes of own objects, loops. -/
namespace Tp
open PySem PySem.Spec PyProof.Rows L2
section
variable {T : ExcT} {X : Cx} {own : Bool} {ex : Expr} {m : M D} {pos : Pos} {i : Nat} {x : Str} {px : Pos}
/-- x += e, x -= e of ints -/
def augM (f : Int → Int → Int) (i : Nat) (m : M D) : SM := fun e => match e[i]? with
  | some (.val (.int a)) => onV m (fun d e' => match d with | .int b => liftE (setV e' i (.int (f a b))) | _ => .stuck) e
  | _ => .stuck
theorem ss_aug {op : Operator} {f : Int → Int → Int} (ho : PIp X op (ipI f)) (he : SE T X ex m) (hN : X.N.Nodup) (hi : X.N[i]? = some x) (hx : Loc X.env.scope x) (hf : X.fn x = true ∨ X.env.scope.names.lookup x = some .local) :
    SS T X own (.AugAssign (.Name x px) op ex pos) (augM f i m) := fun F tk => PS.weak (ps_aug hN hi hx (he F tk) ho hf) fun D σ H ⟨e, G, s, q⟩ => by
  unfold augM at q
  split at q
  · rename_i a ha
    obtain ⟨v, h1, h2⟩ := s.vals i _ ha
    cases h2
    refine ⟨_, h1, e, G, s, (AftS.onV (σ := σ) q).mono fun w H1 ⟨d, e1, G1, s1, l1, r1, q1⟩ => ?_⟩
    cases d <;> first | exact q1.elim | skip
    rename_i b
    cases r1
    refine ⟨a, b, rfl, rfl, ?_⟩
    cases hb : setV e1 i (.int (f a b)) with
    | none => simp only [hb] at q1; exact q1.elim
    | some e2 =>
      simp only [hb] at q1
      exact q1 _ H1 G1 (s1.setv (.int _) hb) LeG.refl
  · exact q.elim
/-- an own object's slot -/
def mMine (i : Nat) : M Opd := fun e => match e[i]?.bind Slot.mine? with | some _ => .ok (.inr i) e | none => .stuck
theorem so_mine (hN : X.N[i]? = some x) (hv : Vis X.env.scope x) (hd : (x == ("__debug__" : Str)) = false) (hcd : (x == ("__classdict__" : Str)) = false) : SO T X (.Name x pos) (mMine i) := fun F _ => PE.weak (pe_var hN hv hd hcd) fun σ H Q ⟨e, G, s, q⟩ => by
  unfold mMine at q
  cases h : e[i]?.bind Slot.mine? with
  | none => rw [h] at q; exact q.elim
  | some d =>
    rw [h] at q
    obtain ⟨a, h1, _⟩ := s.mine h
    exact ⟨.ref a, h1, q (.ref a) H G s LeG.refl h1⟩
/-- an own object changes -/
def changeM (i : Nat) (f : D → Option D) : SM := fun e => match e[i]?.bind Slot.mine? with
  | some d => match f d with | some d' => .nx (putMine e i d') | none => .stuck
  | none => .stuck
theorem aft_change {K : Fg} {F : Frm} {σ : L2.St} {H G : Hp} {e : Env} {D : Ends} {f : PyData → Option PyData} (s : SR K F σ H e G) (q : AftS T K own F G (changeM i f e) D) : ∃ a d d', σ[i]? = some (some (.ref a)) ∧ OwnAt K G H a d ∧ f d = some d' ∧
    ∀ o', OwnAt K G (upd H a o') a d' → D.nx σ (upd H a o') := by
  unfold changeM at q
  cases hm : e[i]?.bind Slot.mine? with
  | none => rw [hm] at q; exact q.elim
  | some d =>
    rw [hm] at q
    cases hf : f d with
    | none => simp only [hf] at q; exact q.elim
    | some d' =>
      simp only [hf] at q
      obtain ⟨a, h1, h2, _⟩ := s.mine hm
      refine ⟨a, d, d', h1, h2, hf, fun o' ow => ?_⟩
      refine q σ _ G (s.turned hm h1 (fun b u hb k => by rw [upd_ne hb]; exact k) LeG.refl (fun b u k => ?_) (fun b u k => .inl k) ow) LeG.refl
      have hb : b ≠ a := fun z => by rw [z, h2.free] at k; cases k
      rw [upd_ne hb]
      exact s.le b u k
/-- x.append(e) -/
def appD (y : D) : D → Option D
  | .list ds => if ds.length < sizeLine then some (.list (ds ++ [y])) else none
  | _ => none
def appM (i : Nat) (m : M D) : SM := fun e => match e[i]?.bind Slot.mine? with | some (.list _) => onV m (fun y => changeM i (appD y)) e | _ => .stuck
theorem ss_append {apos cpos : Pos} (he : SE T X ex m) (hN : X.N[i]? = some x) (hv : Vis X.env.scope x) (hd : (x == ("__debug__" : Str)) = false) (hcd : (x == ("__classdict__" : Str)) = false) (hl : (apos.endLine == cpos.line) = true) (ns : notStar ex = true) :
    SS T X own (.Expr (.Call (.Attribute (.Name x px) "append" apos) [ex] [] cpos) pos) (appM i m) := fun F tk =>
  PS.weak (ps_expr (pe_bm PySem.F.plainAttrs_list PySem.F.slot_list_append PySem.F.type_list_append mt_append (pe_var hN hv hd hcd) (pa_cons (he F tk) pa_nil (star_cons ns)) rfl (by rw [star_cons ns] <;> rfl) hl (star_cons ns) rfl) rfl) fun D σ H ⟨e, G, s, q⟩ => by
  unfold appM at q
  split at q
  · rename_i ds hm
    obtain ⟨a, h1, h2, _⟩ := s.mine hm
    obtain ⟨_, vs, k1, k2⟩ := h2
    refine ⟨.ref a, h1, .inl ⟨rfl, vs, .inl (.inl k1)⟩, e, G, s, (AftS.onV (σ := σ) q).mono fun v H1 ⟨d, e1, G1, s1, l1, r1, q1⟩ => ?_⟩
    obtain ⟨a', d1, d1', w1, w2, w3, w4⟩ := aft_change s1 q1
    have ea : a = a' := by
      rw [h1] at w1
      injection w1 with z
      injection z with z
      injection z
    subst ea
    cases d1 <;> simp only [appD] at w3
    case list ds1 =>
      split at w3
      · rename_i hz
        cases w3
        obtain ⟨g0, vs1, y1, y2⟩ := w2
        refine ⟨a, vs1, v, rfl, rfl, y1, by rw [← y2.length]; exact hz, ?_⟩
        exact w4 _ ⟨g0, _, upd_same, y2.app (.cons r1 .nil)⟩
      · cases w3
    all_goals cases w3
  · exact q.elim
/-- x[k] = e, a list -/
def setD (k y : D) : D → Option D
  | .list ds => match k with | .int k => (ixN ds.length k).map fun j => .list (ds.set j y) | _ => none
  | _ => none
def setM (i : Nat) (mk m : M D) : SM := onV m fun y e => match e[i]?.bind Slot.mine? with | some _ => onV mk (fun k => changeM i (setD k y)) e | none => .stuck
theorem assign_sub {o kx : Expr} {spos : Pos} {env : PySem.Env} (h : notSlice kx = true) : ∀ v, assign (.Subscript o kx spos) env v = (do let ov ← holding [v] (eval o env); let iv ← holding [v, ov] (eval kx env); standAt spos; holding [v, ov, iv] (setItem ov iv v); release [v, ov, iv] []) := fun v => by
  cases kx <;> first | rfl | cases h
theorem ss_set {kx : Expr} {mk : M D} {spos : Pos} (he : SE T X ex m) (hk : SE T X kx mk) (hN : X.N[i]? = some x) (hv : Vis X.env.scope x) (hd : (x == ("__debug__" : Str)) = false) (hcd : (x == ("__classdict__" : Str)) = false) (hn : notComp ex = true) (nsl : notSlice kx = true) :
    SS T X own (.Assign [.Subscript (.Name x px) kx spos] ex pos) (setM i mk m) := fun F tk =>
  PS.weak (ps_asg (he F tk) (pg_sub (pe_var hN hv hd hcd) (hk F tk) set_list (assign_sub nsl)) (swaps_sole hn) (stores_not (.inr rfl)) rfl) fun D σ H ⟨e, G, s, q⟩ => by
  refine ⟨e, G, s, (AftS.onV (σ := σ) q).mono fun v H1 ⟨y, e1, G1, s1, l1, r1, q1⟩ => ?_⟩
  cases hm : e1[i]?.bind Slot.mine? with
  | none => simp only [hm] at q1; exact q1.elim
  | some d0 =>
    simp only [hm] at q1
    obtain ⟨a, h1, h2, _⟩ := s1.mine hm
    refine ⟨.ref a, h1, e1, G1, s1, (AftS.onV (σ := σ) q1).mono fun w H2 ⟨k, e2, G2, s2, l2, r2, q2⟩ => ?_⟩
    obtain ⟨a', d1, d1', w1, w2, w3, w4⟩ := aft_change s2 q2
    have ea : a = a' := by
      rw [h1] at w1
      injection w1 with z
      injection z with z
      injection z
    subst ea
    cases d1 <;> simp only [setD] at w3
    case list ds1 =>
      split at w3
      · rename_i k
        cases r2
        obtain ⟨g0, vs1, y1, y2⟩ := w2
        cases hj : ixN ds1.length k with
        | none => rw [hj] at w3; cases w3
        | some j =>
          rw [hj] at w3
          cases w3
          refine ⟨a, vs1, k, j, rfl, rfl, y1, by rw [← y2.length]; exact hj, ?_⟩
          exact w4 _ ⟨g0, _, upd_same, RDs.setAt (r1.le l2) j y2⟩
      · cases w3
    all_goals cases w3
/-! ### loops -/
theorem set_self {σ : L2.St} {i : Nat} {x : Option V} (h : σ[i]? = some x) : σ.set i x = σ := by
  apply List.ext_getElem?
  intro j
  by_cases z : j = i
  · subst z
    rw [List.getElem?_set_self (List.getElem?_eq_some_iff.mp h).1, h]
  · rw [List.getElem?_set_ne (Ne.symm z)]
theorem SR.drop {K : Fg} {F : Frm} {σ : L2.St} {H G : Hp} {e : Env} (s : SR K F σ H e G) : ∀ {vs : List Nat} {e' : Env}, wipeE e vs = some e' → SR K F σ H e' G
  | [], e', h => by
    have z : e = e' := Option.some.inj h
    subst z
    exact s
  | v :: vs, e', h => by
    unfold wipeE at h
    cases hb : wipeE e vs with
    | none => rw [hb] at h; cases h
    | some e1 =>
      rw [hb] at h
      have ih := SR.drop s hb
      have h' : (match e1[v]? with | some (.io _) => none | some _ => some (e1.set v .no) | none => none) = some e' := h
      cases hv : e1[v]? with
      | none => rw [hv] at h'; cases h'
      | some sl =>
        rw [hv] at h'
        have z : (∀ d, sl ≠ .io d) ∧ e' = e1.set v .no := by
          cases sl <;> first | exact ⟨fun _ z => by simp at z, (Option.some.inj h').symm⟩ | (cases h'; done)
        rw [z.2]
        have hlt : v < σ.length := by
          have := (List.getElem?_eq_some_iff.mp hv).1
          rw [ih.len] at this
          exact this
        have := ih.lose (i := v) (fun d w => by rw [hv] at w; exact z.1 d (Option.some.inj w)) σ[v]
        rw [set_self (List.getElem?_eq_getElem hlt)] at this
        exact this
def forLoop (t : Tgt) (mb : SM) (kill : List Nat) : List D → Env → Out
  | [], e => .nx e
  | d :: ds, e =>
    match t.bind d e with
    | none => .stuck
    | some e1 =>
      match mb e1 with
      | .nx e2 => match wipeE e2 kill with | some e3 => forLoop t mb kill ds e3 | none => .stuck
      | .ct e2 => match wipeE e2 kill with | some e3 => forLoop t mb kill ds e3 | none => .stuck
      | .bk e2 => liftE (wipeE e2 kill)
      | o => o
def onS (m : M Src) (k : Src → SM) : SM := fun e => match m e with | .ok d e' => k d e' | .exc c x e' => .exc c x e' | .stuck => .stuck
def forM' (mi : M Src) (t : Tgt) (mb : SM) (kill : List Nat) : SM := onS mi fun p e => match p.2 with
  | none => forLoop t mb kill p.1 e
  | some _ => .stuck
theorem ss_for {tg iter : Expr} {body : List Stmt} {mi : M Src} {t : Tgt} {mb : SM} {kill : List Nat} (hp : PassesOwn (model X.prog X.w) X.A X.env X.xe) (hc : X.calm = true) (hi : SI T X tg iter mi) (hg : SG X tg t) (hb : SSs T X own body mb) (hs : notSet iter = true) :
    SS T X own (.For tg iter body [] pos) (forM' mi t mb kill) := fun F tk => PS.weak (ps_for hp hc (hi F tk) hg (hb F tk) (notSet_iter hs)) fun D σ H ⟨e, G, s, q⟩ => by
  refine ⟨e, G, s, ?_⟩
  unfold forM' onS at q
  unfold Aft
  cases hm : mi e with
  | stuck => rw [hm] at q; exact q.elim
  | exc c x e1 => rw [hm] at q; exact fun cls dd H1 G1 s l r => q cls dd σ H1 G1 s l r
  | ok p e1 =>
    rw [hm] at q
    simp only at q
    intro J H1 G1 s1 l1 ⟨S, wk, hS⟩
    cases hp2 : p.2 with
    | some j => rw [hp2] at q; exact q.elim
    | none =>
      rw [hp2] at q
      simp only at q
      have hSat : ∀ {σ : L2.St} {H : Hp} {e : Env} {G : Hp}, SR X.K F σ H e G → LeG G1 G → S G H := fun {σ H e G} s l => hS F σ H e G s l (fun j hj => by rw [hp2] at hj; cases hj) (by unfold srcAt; rw [hp2]; trivial)
      refine ⟨fun k m σ H => m = p.1.length - k ∧ k ≤ p.1.length ∧ ∃ e G, SR X.K F σ H e G ∧ LeG G1 G ∧ AftS T X.K own F G (forLoop t mb kill (p.1.drop k) e) D, ⟨p.1.length, by simp, Nat.zero_le _, e1, G1, s1, LeG.refl, q.weak l1⟩, ?_⟩
      rintro k m σ H ⟨rfl, hk, e, G, s, l, q⟩
      by_cases hlt : k < p.1.length
      · refine .inr ⟨wk.goes k G H hlt s.le (hSat s l), fun σ' H' => ∃ e G, SR X.K F σ' H' e G ∧ LeG G1 G ∧ AftS T X.K own F G (forLoop t mb kill (p.1.drop (k + 1)) e) D, fun σ' H' ⟨e', G', s', l', q'⟩ => ⟨p.1.length - (k + 1), by omega, rfl, hlt, e', G', s', l', q'⟩, fun x H' y => ?_⟩
        obtain ⟨d, Gx, hd, gr, rdx⟩ := wk.yields k G H x H' hlt s.le (hSat s l) y
        have hdrop : p.1.drop k = d :: p.1.drop (k + 1) := by
          obtain ⟨h1, h2⟩ := List.getElem?_eq_some_iff.mp hd
          rw [← h2]
          exact List.drop_eq_getElem_cons h1
        rw [hdrop] at q
        unfold forLoop at q
        cases hb : t.bind d e with
        | none => rw [hb] at q; exact q.elim
        | some e3 =>
          rw [hb] at q
          simp only at q
          refine ⟨F, d, e, e3, Gx, s.grow gr, rdx, hb, fun σ2 s2 _ => ⟨e3, Gx, s2, ?_⟩⟩
          cases hmb : mb e3 with
          | stuck => rw [hmb] at q; exact q.elim
          | exc c x e4 => rw [hmb] at q; exact q.weak gr.g
          | rt d e4 => rw [hmb] at q; exact q.weak gr.g
          | nx e4 =>
            rw [hmb] at q
            simp only at q
            cases hw : wipeE e4 kill with
            | none => rw [hw] at q; exact q.elim
            | some e5 =>
              rw [hw] at q
              exact fun σ3 H3 G3 s3 l3 => ⟨e5, G3, s3.drop hw, l.trans (gr.g.trans l3), q.weak (gr.g.trans l3)⟩
          | ct e4 =>
            rw [hmb] at q
            simp only at q
            cases hw : wipeE e4 kill with
            | none => rw [hw] at q; exact q.elim
            | some e5 =>
              rw [hw] at q
              exact fun σ3 H3 G3 s3 l3 => ⟨e5, G3, s3.drop hw, l.trans (gr.g.trans l3), q.weak (gr.g.trans l3)⟩
          | bk e4 =>
            rw [hmb] at q
            simp only at q
            cases hw : wipeE e4 kill with
            | none => rw [hw] at q; exact q.elim
            | some e5 =>
              rw [hw] at q
              exact fun σ3 H3 G3 s3 l3 => q σ3 H3 G3 (s3.drop hw) (gr.g.trans l3)
      · have ek : k = p.1.length := by omega
        subst ek
        rw [List.drop_length] at q
        exact .inl ⟨wk.stops G H s.le (hSat s l), q σ H G s LeG.refl⟩
def whileLoop (mc : M Bool) (mb : SM) (kill : List Nat) : Nat → Env → Out
  | 0, _ => .stuck
  | n + 1, e =>
    match mc e with
    | .ok true e1 =>
      match mb e1 with
      | .nx e2 => match wipeE e2 kill with | some e3 => whileLoop mc mb kill n e3 | none => .stuck
      | .ct e2 => match wipeE e2 kill with | some e3 => whileLoop mc mb kill n e3 | none => .stuck
      | .bk e2 => liftE (wipeE e2 kill)
      | o => o
    | .ok false e1 => .nx e1
    | .exc c x e1 => .exc c x e1
    | .stuck => .stuck
theorem ss_while {c : Expr} {body : List Stmt} {mc : M Bool} {mb : SM} {kill : List Nat} {n : Nat} (hp : PassesOwn (model X.prog X.w) X.A X.env X.xe) (hc : SB T X c mc) (hb : SSs T X own body mb) :
    SS T X own (.While c body [] pos) (whileLoop mc mb kill n) := fun F tk => PS.weak (ps_while hp (hc F tk) (hb F tk)) fun D σ H ⟨e, G, s, q⟩ => by
  refine ⟨fun m σ H => ∃ e G, SR X.K F σ H e G ∧ AftS T X.K own F G (whileLoop mc mb kill m e) D, ⟨n, e, G, s, q⟩, ?_⟩
  rintro m σ H ⟨e, G, s, q⟩
  refine ⟨e, G, s, ?_⟩
  cases m with
  | zero => exact q.elim
  | succ m =>
    unfold whileLoop at q
    unfold Aft
    cases hm : mc e with
    | stuck => rw [hm] at q; exact q.elim
    | exc c x e1 => rw [hm] at q; exact fun cls dd H1 G1 s l r => q cls dd σ H1 G1 s l r
    | ok b e1 =>
      rw [hm] at q
      intro b' H1 G1 s1 l1 eb
      have eb' : b = b' := eb
      subst eb'
      cases b with
      | false =>
        rw [if_neg (by simp)]
        exact q σ H1 G1 s1 l1
      | true =>
        rw [if_pos rfl]
        simp only at q
        refine ⟨fun σ' H' => ∃ e G, SR X.K F σ' H' e G ∧ AftS T X.K own F G (whileLoop mc mb kill m e) D, fun σ' H' h => ⟨m, Nat.lt_succ_self m, h⟩, e1, G1, s1, ?_⟩
        cases hmb : mb e1 with
        | stuck => rw [hmb] at q; exact q.elim
        | exc c x e4 => rw [hmb] at q; exact q.weak l1
        | rt d e4 => rw [hmb] at q; exact q.weak l1
        | nx e4 =>
          rw [hmb] at q
          simp only at q
          cases hw : wipeE e4 kill with
          | none => rw [hw] at q; exact q.elim
          | some e5 =>
            rw [hw] at q
            exact fun σ3 H3 G3 s3 l3 => ⟨e5, G3, s3.drop hw, q.weak (l1.trans l3)⟩
        | ct e4 =>
          rw [hmb] at q
          simp only at q
          cases hw : wipeE e4 kill with
          | none => rw [hw] at q; exact q.elim
          | some e5 =>
            rw [hw] at q
            exact fun σ3 H3 G3 s3 l3 => ⟨e5, G3, s3.drop hw, q.weak (l1.trans l3)⟩
        | bk e4 =>
          rw [hmb] at q
          simp only at q
          cases hw : wipeE e4 kill with
          | none => rw [hw] at q; exact q.elim
          | some e5 =>
            rw [hw] at q
            exact fun σ3 H3 G3 s3 l3 => q σ3 H3 G3 (s3.drop hw) (l1.trans l3)
end
end Tp
/-! Tp12: isinstance. -/
namespace Tp
open PySem PySem.Spec PyProof.Rows L2
inductive Ty5 where
  | int | bool | str | tuple | list
  deriving DecidableEq
def Ty5.nm : Ty5 → String
  | .int => "int" | .bool => "bool" | .str => "str" | .tuple => "tuple" | .list => "list"
def Ty5.ns : Ty5 → Str
  | .int => "int" | .bool => "bool" | .str => "str" | .tuple => "tuple" | .list => "list"
/-- does a value of the data have the class? -/
def isiD (d : D) (t : Ty5) : Option Bool := match d with
  | .none => some false
  | .bool _ => some (match t with | .int => true | .bool => true | _ => false)
  | .int _ => some (match t with | .int => true | _ => false)
  | .str _ => some (match t with | .str => true | _ => false)
  | .tuple _ => some (match t with | .tuple => true | _ => false)
  | .list _ => some (match t with | .list => true | _ => false)
  | .dict _ => none
def isiAny (d : D) : List Ty5 → Option Bool
  | [] => some false
  | t :: ts => (isiD d t).bind fun b => if b then some true else isiAny d ts
theorem kit5 (a : String) (t : Ty5) (b : Bool) (h : kitB a t.nm = some b) {K : Fg} : PySem.W.kitOne K (.type a) (.type t.nm) = some b := kit_ty h
theorem isi_ty {K : Fg} {G H : Hp} {d : D} {v : V} {t : Ty5} {b : Bool} (l : LeG G H) (r : RB K G H d v) (h : isiD d t = some b) : ∃ a, TyX K H v (.type a) ∧ ∀ t b, isiD d t = some b → PySem.W.kitOne K (.type a) (.type t.nm) = some b := by
  cases d with
  | none =>
    rw [r.none]
    exact ⟨_, .base .non, fun t b h => by cases h; cases t <;> exact kit5 _ _ _ (by decide +kernel)⟩
  | bool x =>
    rw [r.bool]
    exact ⟨_, .base (.bl x), fun t b h => by cases t <;> (cases h; exact kit5 _ _ _ (by decide +kernel))⟩
  | int i =>
    rw [r.int]
    exact ⟨_, .base (.int i), fun t b h => by cases t <;> (cases h; exact kit5 _ _ _ (by decide +kernel))⟩
  | str x =>
    rw [r.str]
    exact ⟨_, .base (.str x), fun t b h => by cases t <;> (cases h; exact kit5 _ _ _ (by decide +kernel))⟩
  | list ds =>
    obtain ⟨a, vs, rfl, h1, h2⟩ := r.list l
    refine ⟨"list", ?_, fun t b h => by cases t <;> (cases h; exact kit5 _ _ _ (by decide +kernel))⟩
    rcases h1 with (h1 | ⟨o, h1⟩) | ⟨its, n, h1, _⟩
    · exact .base (.lst h1)
    · exact .base (.frz h1)
    · exact .kList h1 rfl
  | tuple ds =>
    obtain ⟨a, vs, rfl, h1, h2, _⟩ := r.tuple l
    refine ⟨"tuple", ?_, fun t b h => by cases t <;> (cases h; exact kit5 _ _ _ (by decide +kernel))⟩
    rcases h1 with (h1 | ⟨o, h1⟩) | ⟨o, its, n, h1, h2, _⟩
    · exact .base (.tup h1)
    · exact .fTuple h1
    · exact .kTuple h1 h2
  | dict kvs => cases h
theorem kitAny_of {K : Fg} {d : D} {a : String} (h : ∀ t b, isiD d t = some b → PySem.W.kitOne K (.type a) (.type t.nm) = some b) : ∀ {ts : List Ty5} {b : Bool}, isiAny d ts = some b → PySem.W.kitAny K (.type a) (ts.map fun t => .type t.nm) = some b
  | [], b, e => by cases e; exact kitAny_nil
  | t :: ts, b, e => by
    unfold isiAny at e
    cases h1 : isiD d t with
    | none => rw [h1] at e; cases e
    | some b1 =>
      rw [h1] at e
      have e' : (if b1 then some true else isiAny d ts) = some b := e
      cases b1 with
      | true =>
        cases e'
        exact kitAny_cons (h t true h1) (fun z => nomatch z) (fun _ => rfl)
      | false => exact kitAny_cons (h t false h1) (fun _ => kitAny_of h e') (fun z => nomatch z)
theorem boot_ty5 (t : Ty5) : bootBuiltins t.ns = some (.type t.nm) := by cases t <;> decide +kernel
theorem ns5 (t : Ty5) : t.ns ≠ "__name__" ∧ (t.ns == ("__debug__" : Str)) = false := by cases t <;> exact ⟨by decide, by decide⟩
section
variable {T : ExcT} {X : Cx} {a : Expr} {ma : M Opd} {p p1 pos : Pos}
theorem pe_ty5 {t : Ty5} (hg : Gl X t.ns) (hm : X.mg t.ns = none) : PE X (.Name t.ns p) (tC (.ty t.nm)) := pe_bltn hg hm (boot_ty5 t) rfl (ns5 t).1 (ns5 t).2
def isi1 (t : Ty5) (o : Opd) : M D := doOp1 (fun d => (isiD d t).map .bool) o
theorem se_isi1 {t : Ty5} (ha : SO T X a ma) (na : notStar a = true) (hg0 : Gl X "isinstance") (hm0 : X.mg "isinstance" = none) (hg : Gl X t.ns) (hm : X.mg t.ns = none) :
    SE T X (.Call (.Name "isinstance" p) [a, .Name t.ns p1] [] pos) (M.bind ma (isi1 t)) := fun F tk =>
  PE.weak (pe_callB call_isi hg0 hm0 PyProof.Rows.boot_isinstance (pa_cons (ha F tk) (pa_cons (pe_ty5 hg hm) pa_nil rfl) (star_cons na)) (by decide) (by decide) (star_cons na) rfl) fun σ H Q ⟨e, G, s, q⟩ => by
  refine ⟨e, G, s, (Aft.bind q).mono fun v H1 ⟨o, e1, G1, s1, l1, r1, q1⟩ => ?_⟩
  refine aft_op1 (r := fun v H1 Q => rIsi X.K [v, .ty t.nm] H1 Q) (fun G H d v d' Q l r e q => ?_) s1 r1 q1
  cases h : isiD d t with
  | none => simp only [h] at e; cases e
  | some b =>
    simp only [h] at e
    cases e
    obtain ⟨y, k1, k2⟩ := isi_ty l r h
    exact ⟨v, .ty t.nm, .type y, .type t.nm, b, rfl, .ty _, k1, k2 t b h, q _ G H (Grow.refl l) (.bl _)⟩
def isi2 (t u : Ty5) (o : Opd) : M D := doOp1 (fun d => (isiAny d [t, u]).map .bool) o
theorem se_isi2 {t u : Ty5} {k : Nat} {p2 p3 : Pos} (ha : SO T X a ma) (na : notStar a = true) (hg0 : Gl X "isinstance") (hm0 : X.mg "isinstance" = none) (hg : Gl X t.ns) (hm : X.mg t.ns = none) (hg' : Gl X u.ns) (hm' : X.mg u.ns = none) :
    SE T X (.Call (.Name "isinstance" p) [a, .Tuple [.Name t.ns p1, .Name u.ns p2] k p3] [] pos) (M.bind ma (isi2 t u)) := fun F tk =>
  PE.weak (pe_callB call_isiT hg0 hm0 PyProof.Rows.boot_isinstance (pa_cons (ha F tk) (pa_cons (pe_tup (pa_cons (pe_ty5 hg hm) (pa_cons (pe_ty5 hg' hm') pa_nil rfl) rfl)) pa_nil rfl) (star_cons na)) (by decide) (by decide) (star_cons na) rfl) fun σ H Q ⟨e, G, s, q⟩ => by
  refine ⟨e, G, s, (Aft.bind q).mono fun v H1 ⟨o, e1, G1, s1, l1, r1, q1⟩ => ?_⟩
  refine aft_op1 (r := fun v H1 Q => 2 ≤ sizeLine ∧ ∀ pt, H1 pt = none → rIsiT X.K [v, .ref pt] (upd H1 pt (.tup [.ty t.nm, .ty u.nm])) Q) (fun G H d v d' Q l r e q => ?_) s1 r1 q1
  refine ⟨by decide, fun pt np => ?_⟩
  cases h : isiAny d [t, u] with
  | none => simp only [h] at e; cases e
  | some b =>
    simp only [h] at e
    cases e
    have w := Grow.hid l np (.tup [.ty t.nm, .ty u.nm])
    have r' : RB X.K G (upd H pt (.tup [.ty t.nm, .ty u.nm])) d v := by
      rcases r with r | ⟨a, rfl, o⟩
      · exact .inl r
      · exact .inr ⟨a, rfl, o.mono LeG.refl o.free fun u q => w.h a u q⟩
    obtain ⟨b1, h1⟩ : ∃ b1, isiD d t = some b1 := by
      unfold isiAny at h
      cases h1 : isiD d t with
      | none => rw [h1] at h; cases h
      | some b1 => exact ⟨b1, rfl⟩
    obtain ⟨y, k1, k2⟩ := isi_ty w.le r' h1
    refine ⟨v, pt, [.ty t.nm, .ty u.nm], .type y, [.type t.nm, .type u.nm], b, rfl, upd_same, .cons (.ty _) (.cons (.ty _) .nil), k1, kitAny_of k2 h, q _ G _ w (.bl _)⟩
end
end Tp
/-! Tq1: sorted(set(xs)) of onlyI, any number of them (fewer than 4000). -/
namespace Tp
open PySem PySem.Spec PyProof.Rows L2
/-- a set just made -/
abbrev fs (w : World) : Obj := { cls := .type "set", dict := none, data := .set #[] 0 (.fresh 0 0 (!w.params.followText "set-order")) }
section
variable {P : Program} {w : World} {A : Around} {E : Value → Shared → Prop} {s : Shared}
/-- what the set's filling leaves -/
def Filled (w : World) (s s2 : Shared) (ns : List Int) : Prop :=
  ∃ hp tk c, s2 = { s with heap := hp, toks := tk } ∧ SetR w hp s.heap.objs.size (fun j => decide (j ∈ ns)) c ∧ c ≤ ns.length ∧ ∀ b u, s.heap.get? b = some u → hp.get? b = some u
theorem new_at (w : World) (h : Heap) : (h.push (fs w)).get? h.objs.size = some (fs w) := Heap.get?_push_size _ rfl
/-- the walk over the list fills it -/
theorem fill_list {B : Around} {l : Addr} {xs : Array Value} {ns : List Int} {R : Result → Shared → Prop} (hB : B.in1.handled = none) (hl : s.heap.IsList l xs) (onlyI : IntsAre xs.toList ns) (few : ns.length + 1 < scanBound)
    (hR : ∀ s2, Filled w s s2 ns → R (.ok (.ret .none)) s2) :
    codeAny (model P w) B (.builtin "set.update.loop" ⟨[.ref s.heap.objs.size, .ref (s.heap.push (fs w)).objs.size], []⟩) R
      { s with heap := (s.heap.push (fs w)).push { cls := .type "list_iterator", data := .fields #[.ref l, .int 0 0] } } := by
  have size_eq : xs.size = ns.length := by
    have q := onlyI.length
    rwa [Array.length_toList] at q
  obtain ⟨o, hol, _⟩ := id hl
  have low : l < s.heap.objs.size := Heap.lt_size hol
  have top : (s.heap.push (fs w)).objs.size = s.heap.objs.size + 1 := Heap.size_push ..
  have apart : l ≠ (s.heap.push (fs w)).objs.size := by
    rw [top]
    exact Nat.ne_of_lt (Nat.lt_succ_of_lt low)
  have clear : s.heap.objs.size ∉ [(s.heap.push (fs w)).objs.size, l] := by
    simp only [List.mem_cons, List.not_mem_nil, or_false, not_or, top]
    exact ⟨Nat.ne_of_lt (Nat.lt_succ_self _), Nat.ne_of_gt low⟩
  have item : ∀ (i : Nat) (v : Value), xs[i]? = some v → ∃ k t, ns[i]? = some k ∧ v = .int k t := fun i v hv => by
    have below : i < ns.length := size_eq ▸ (Array.getElem?_eq_some_iff.mp hv).1
    obtain ⟨t, e⟩ := IntsAre.int_at onlyI i v (by rw [Array.getElem?_toList]; exact hv)
    refine ⟨ns[i], t, List.getElem?_eq_getElem below, ?_⟩
    rw [e, List.getD_eq_getElem?_getD, List.getElem?_eq_getElem below]
    rfl
  have later : (s.heap.push (fs w)).IsList l xs := hl.push _
  have there : ((s.heap.push (fs w)).push { cls := .type "list_iterator", data := .fields #[.ref l, .int 0 0] }).get? s.heap.objs.size = some (fs w) := Heap.get?_push_of_some _ (new_at w s.heap)
  refine set_update_ints ((Walks.list hB _ l apart xs).toS) s.heap.objs.size clear ns size_eq few item (xs.size - 0) 0 _ (by omega) (Nat.zero_le _) ⟨⟨_, Heap.get?_push_size _ rfl, rfl, rfl⟩, later.push _⟩ ⟨0, Nat.le_refl 0, setR_new_at there⟩ fun s2 c moved hc full => hR s2 ?_
  obtain ⟨h2, g2, d2, t2, o2⟩ := s2
  have e1 : g2 = s.gens := moved.gens
  have e2 : d2 = s.drawn := moved.drawn
  have e3 : o2 = s.os := moved.os
  subst e1 e2 e3
  refine ⟨h2, t2, c, rfl, full, size_eq ▸ hc, fun b u e => ?_⟩
  have lb := Heap.lt_size e
  refine moved.heap b u ?_ (Heap.get?_push_of_some _ (Heap.get?_push_of_some _ e))
  simp only [List.mem_cons, List.not_mem_nil, or_false, not_or, top]
  exact ⟨Nat.ne_of_lt lb, Nat.ne_of_lt (Nat.lt_succ_of_lt lb)⟩
theorem set_of_list {l : Addr} {xs : Array Value} {ns : List Int} {Q : Value → Shared → Prop} (cold : A.handled = none) (hl : s.heap.IsList l xs) (onlyI : IntsAre xs.toList ns) (few : ns.length + 1 < scanBound)
    (hQ : ∀ s2, Filled w s s2 ns → Q (.ref s.heap.objs.size) s2) : wpAny (model P w) A (call (.type "set") [.ref l]) Q E s := by
  obtain ⟨c0, rest, order⟩ := F.called_set.mro
  have f1 := F.called_set.made
  have f2 := F.called_set.sub
  have f3 := F.called_set.notType
  have f4 := F.called_set.canCreate
  have f5 := F.typeCall_set_1 (.ref l)
  refine wpAny_call (codeAny_of_tree (show wpAny _ _ (callAny (.type "set") _) _ _ _ from wpAny_pure ⟨Code.quiet_builtin _ (by decide +kernel), codeAny_builtin F.entry_type_call ?_⟩))
  rw [Around.under_plain (weight_type_call_type "set" [.ref l] []) rfl]
  repeat (any_goals (first | assumption | wp_step))
  refine codeAny_mono (code_set_led1 (.ref l) (E := E) (Q₁ := fun v s1 => v = .ref s.heap.objs.size ∧ s1 = { s with heap := s.heap.push (fs w) }) ⟨rfl, rfl⟩) fun out s1 made => ?_
  cases out with
  | error e => exact made
  | ok fl =>
    cases fl with
    | ret v =>
      obtain ⟨rfl, rfl⟩ := made
      have is_set : Shared.TypeIs { s with heap := s.heap.push (fs w) } (.ref s.heap.objs.size) "set" := ⟨_, new_at w s.heap, rfl⟩
      have f6 := F.called_set.init.lookup
      have f7 := F.called_set.init.bind (.ref s.heap.objs.size)
      have the_set := new_at w s.heap
      repeat (any_goals (first | assumption | wp_step))
      refine codeAny_mono (codeAny_call_builtin (R := wants (fun r s2 => r = .none ∧ Filled w s s2 ns) E) F.called_set.init.plain F.entry_set_init (check_set_init_1 is_set ?_)) fun out2 s2 done2 => ?_
      · obtain ⟨⟨k1, k2, k3, k4⟩, got, k5, m, k6⟩ := id hl
        simp only at k5 k6
        subst k5 k6
        have got2 : (s.heap.push (fs w)).get? l = some { cls := .type "list", dict := k2, data := .seq xs m, slots := k4 } := Heap.get?_push_of_some _ got
        have f8 := F.sub_list_set
        have f9 := F.sub_list_frozenset
        have differ : (Value.type "list" == Value.type "dict") = false := by decide
        have later : (s.heap.push (fs w)).IsList l xs := ⟨_, got2, rfl, m, rfl⟩
        unfold Builtin.«set.__init__» noKeywords Builtin.Frozenset.updateFrom
        generalize walk_ : pyIter = W_
        wp_walk
        subst walk_
        refine wpAny_pyIter_list later (wpAny_bind (wpAny_runValue ?_))
        refine fill_list (by simp [cold]) hl onlyI few fun s2 full => ?_
        show wpAny _ _ _ _ _ _
        refine wpAny_pure ?_
        show wpAny _ _ (ret Value.none) _ _ _
        exact wpAny_pure ⟨rfl, full⟩
      · cases out2 with
        | error e => exact done2
        | ok fl2 =>
          cases fl2 with
          | ret r =>
            obtain ⟨rfl, full⟩ := done2
            obtain ⟨hp, tk, c, rfl, z1, z2, z3⟩ := id full
            repeat (any_goals (first | assumption | wp_step))
            exact hQ _ full
          | _ => exact done2.elim
    | _ => exact made.elim
theorem inc_of : ∀ l : List Int, l.Pairwise (· ≤ ·) → l.Nodup → l.Pairwise (· < ·) := lt_of_le_nodup
theorem sorted_members {a : Addr} {S : Int → Bool} {n : Nat} {Q : Value → Shared → Prop} (full : SetR w s.heap a S n) (cold : A.handled = none)
    (hQ : ∀ s2 p (got : Array Value) (c : Nat) (ns : List Int), (∀ b u, s.heap.get? b = some u → s2.heap.get? b = some u) → s2.gens = s.gens → s2.os = s.os → s.heap.objs.size ≤ p →
      s2.heap.get? p = some (seqObj "list" got c) → IntsAre got.toList ns → ns.Pairwise (· < ·) → (∀ k, k ∈ ns ↔ S k = true) → Q (.ref p) s2) :
    wpAny (model P w) A (call (.builtin "sorted") [.ref a]) Q E s := by
  obtain ⟨ob, ents, ep, tab, at_a, exact_, dat, good, nodup, mems, small, fit, count, rise, led⟩ := full
  refine Calls.call_function_entry kind_sorted plain_sorted entry_sorted (args_sorted1 _) ?_
  unfold Builtin.«sorted»
  refine wpAny_bind (m := checkCount "sorted" 1 1 _) (wpAny_pure (wpAny_bind (collect_set (A := A.in1) cold ⟨ob, at_a, exact_.1, dat⟩ fit small rise led fun s1 vs keep1 up1 g1 o1 perm1 => ?_)))
  have vs_len : vs.length = ents.size := by rw [perm1.length_eq, List.length_map, Array.length_toList]
  have vs_ok : vs.length ≤ sizeLine := by
    rw [vs_len]
    exact Nat.le_trans (Nat.le_of_lt small) (by decide)
  have vs_int : IntsAre vs (vs.map Builtin.Re.reRawOf) := ints_of vs fun v hv => by
    obtain ⟨en, hen, rfl⟩ := List.mem_map.mp (perm1.mem_iff.mp hv)
    obtain ⟨k, tk, e1, _⟩ := good en hen
    exact ⟨k, tk, e1⟩
  have raw : (vs.map Builtin.Re.reRawOf).Perm (ents.toList.map keyOf) := by
    have := perm1.map Builtin.Re.reRawOf
    rwa [List.map_map] at this
  refine wpAny_bind (wpAny_newList ?_ vs_ok)
  have fresh_list : (s1.heap.push (seqObj "list" vs.toArray 0)).get? s1.heap.objs.size = some (seqObj "list" vs.toArray 0) := Heap.get?_push_size _ rfl
  refine wpAny_bind (wpAny_holding (wpAny_call_entry slot_list_sort ⟨_, fresh_list, rfl⟩ entry_list_sort (SrtO.list_sort_ord SrtO.swo_int fresh_list vs_ok (fun two => SrtO.ints_sortable vs_int two) fun got inc stab => ⟨_, rfl, ?_⟩) (args_list_sort _)))
  obtain ⟨z1, z2, z3⟩ := SrtO.ints_out vs_int inc stab
  obtain ⟨c, at_p⟩ := sortedHeap_at (vs := vs) (out := got.toArray) fresh_list
  have whole := z2.trans raw
  refine wpAny_pure ⟨_, rfl, hQ _ s1.heap.objs.size got.toArray c (got.map SrtO.iv) (fun b u e => ?_) g1 o1 up1 at_p (by simpa using z1) (inc_of _ z3 (whole.nodup_iff.mpr nodup)) fun k => by rw [whole.mem_iff, ← mems k]⟩
  have e1 := keep1 b u e
  have lb := Heap.lt_size e1
  show (sortedHeap (s1.heap.push (seqObj "list" vs.toArray 0)) s1.heap.objs.size vs got.toArray).get? b = some u
  rw [sortedHeap_old (Nat.ne_of_lt lb) (by rw [Heap.size_push]; exact Nat.lt_succ_of_lt lb)]
  exact Heap.get?_push_of_some _ e1
end
/-! ### the same in plain words -/
def insI (x : Int) : List Int → List Int
  | [] => [x]
  | y :: l => if x < y then x :: y :: l else if x = y then y :: l else y :: insI x l
def sortI : List Int → List Int
  | [] => []
  | x :: l => insI x (sortI l)
theorem insI_mem {x k : Int} : ∀ {l : List Int}, k ∈ insI x l ↔ k = x ∨ k ∈ l
  | [] => by simp [insI]
  | y :: l => by
    unfold insI
    split
    · simp
    · split
      · rename_i h
        subst h
        simp
      · rw [List.mem_cons, insI_mem, List.mem_cons]
        exact ⟨fun z => by rcases z with z | z | z <;> simp [z], fun z => by rcases z with z | z | z <;> simp [z]⟩
theorem insI_inc {x : Int} : ∀ {l : List Int}, l.Pairwise (· < ·) → (insI x l).Pairwise (· < ·)
  | [], _ => List.pairwise_singleton _ _
  | y :: l, h => by
    obtain ⟨h1, h2⟩ := List.pairwise_cons.mp h
    unfold insI
    split
    · rename_i hx
      refine List.pairwise_cons.mpr ⟨fun z hz => ?_, h⟩
      rcases List.mem_cons.mp hz with e | hz
      · subst e
        exact hx
      · exact Int.lt_trans hx (h1 z hz)
    · split
      · exact h
      · rename_i n1 n2
        refine List.pairwise_cons.mpr ⟨fun z hz => ?_, insI_inc h2⟩
        rcases insI_mem.mp hz with e | hz
        · subst e
          omega
        · exact h1 z hz
theorem sortI_mem {k : Int} : ∀ {l : List Int}, k ∈ sortI l ↔ k ∈ l
  | [] => Iff.rfl
  | x :: l => by
    show k ∈ insI x (sortI l) ↔ _
    rw [insI_mem, sortI_mem, List.mem_cons]
theorem sortI_inc : ∀ l : List Int, (sortI l).Pairwise (· < ·)
  | [] => .nil
  | x :: l => insI_inc (sortI_inc l)
theorem inc_unique : ∀ {l r : List Int}, l.Pairwise (· < ·) → r.Pairwise (· < ·) → (∀ k, k ∈ l ↔ k ∈ r) → l = r
  | [], [], _, _, _ => rfl
  | [], y :: r, _, _, h => by have := (h y).mpr List.mem_cons_self; cases this
  | x :: l, [], _, _, h => by have := (h x).mp List.mem_cons_self; cases this
  | x :: l, y :: r, h1, h2, h => by
    obtain ⟨a1, a2⟩ := List.pairwise_cons.mp h1
    obtain ⟨b1, b2⟩ := List.pairwise_cons.mp h2
    have e : x = y := by
      rcases List.mem_cons.mp ((h x).mp List.mem_cons_self) with e | m1
      · exact e
      · rcases List.mem_cons.mp ((h y).mpr List.mem_cons_self) with e | m2
        · exact e.symm
        · have := b1 x m1
          have := a1 y m2
          omega
    subst e
    refine congrArg (x :: ·) (inc_unique a2 b2 fun k => ⟨fun m => ?_, fun m => ?_⟩)
    · rcases List.mem_cons.mp ((h k).mp (List.mem_cons_of_mem _ m)) with e | z
      · subst e
        have := a1 k m
        omega
      · exact z
    · rcases List.mem_cons.mp ((h k).mpr (List.mem_cons_of_mem _ m)) with e | z
      · subst e
        have := b1 k m
        omega
      · exact z
theorem sortI_len : ∀ l : List Int, (sortI l).length ≤ l.length
  | [] => Nat.le_refl _
  | x :: l => by
    have : ∀ r : List Int, (insI x r).length ≤ r.length + 1 := fun r => by
      induction r with
      | nil => exact Nat.le_refl _
      | cons y r ih =>
        unfold insI
        split
        · simp
        · split
          · simp
          · simp only [List.length_cons]
            omega
    exact Nat.le_trans (this _) (Nat.succ_le_succ (sortI_len l))
/-! ### sorted(set(e)) -/
section
variable {X : Cx} {a : Expr} {ta : TE} {p p2 q pos : Pos}
def tSrt (K : Fg) (ta : TE) : TE := fun σ H Q => ta σ H fun x H1 => ∃ (l : Addr) (ns : List Int), x = V.ref l ∧ SqL K H1 l (ns.map V.int) ∧ ns.length < 4000 ∧ ∀ b, H1 b = none → Q (.ref b) (upd H1 b (.lst ((sortI ns).map V.int)))
theorem pe_srt (hg : Gl X "sorted") (hm : X.mg "sorted" = none) (hg2 : Gl X "set") (hm2 : X.mg "set" = none) (calm : X.calm = true) (ha : PE X a ta) (na : starEach [a] X.env = (false, eval a X.env) :: starEach [] X.env) :
    PE X (.Call (.Name "sorted" p) [.Call (.Name "set" p2) [a] [] q] [] pos) (tSrt X.K ta) := by
  refine ⟨fun pins s σ H Q I h => Call_ (ld_blt I hg hm PyProof.Rows.boot_sorted ?_)⟩
  refine PyProof.Rows.callWith_builtin1 (PyProof.Rows.args_cons (Call_ (ld_blt I hg2 hm2 PyProof.Rows.boot_set ?_)) rfl) rfl rfl
  refine PyProof.Rows.callWith_type1 (PyProof.Rows.args_cons (thn (ha.run pins s σ H _ I h) fun v s1 ⟨x, H1, I1, r1, q1⟩ => PyProof.Rows.args_nil ?_) na) na rfl
  obtain ⟨l, ns, rfl, sq, few, q1⟩ := q1
  cases r1
  obtain ⟨its, rv, pl, hz⟩ := I1.list sq
  have cold := I1.ok.hd calm
  refine set_of_list cold pl.isList (ns := ns) (by simpa using rv.ints) (by unfold scanBound; omega) fun s2 full => PyProof.Rows.args_nil ?_
  obtain ⟨hp, tk, c, rfl, members, cl, keep⟩ := full
  have I2 : Inv X pins σ H1 { s1 with heap := hp, toks := tk } := I1.kept keep
  refine sorted_members members cold fun s3 pp got cc ms keep3 g3 o3 up3 at3 int3 inc3 mem3 => ?_
  have same : ms = sortI ns := inc_unique inc3 (sortI_inc ns) fun k => by rw [mem3, sortI_mem, decide_eq_true_eq]
  subst same
  have len3 : ((sortI ns).map V.int).length ≤ sizeLine := by
    rw [List.length_map]
    exact Nat.le_trans (sortI_len ns) (Nat.le_trans (Nat.le_of_lt few) (by decide))
  have new : H1 pp = none := I2.hok.fresh up3
  have e3 : s3 = { s1 with heap := s3.heap, gens := s3.gens, drawn := s3.drawn, toks := s3.toks } := by
    cases s3
    cases s1
    cases o3
    rfl
  have I3 : Inv X pins σ (upd H1 pp (.lst ((sortI ns).map V.int))) { ({ s1 with heap := hp, toks := tk } : Shared) with heap := s3.heap, gens := s3.gens, drawn := s3.drawn, toks := s3.toks } :=
    I2.call (ch := []) (Un.laid keep3 up3 new) (I2.hok.laid keep3 up3 ⟨len3, got.toList, cc, vals_of_ints int3, at3⟩) (by rw [g3]; exact I2.bare) (fun _ z => nomatch z)
  rw [e3]
  exact ⟨.ref pp, _, I3, rfl, q1 pp new⟩
end
end Tp
/-! Tq2: sorted(set(e)) by data. -/
namespace Tp
open PySem PySem.Spec PyProof.Rows L2
def srtD : D → Option D
  | .list ds => (intsOf ds).bind fun ns => if ns.length < 4000 then some (.list ((sortI ns).map .int)) else none
  | _ => none
section
variable {T : ExcT} {X : Cx} {a : Expr} {ma : M Opd} {p p2 q pos : Pos}
theorem rds_ints {K : Fg} {G : Hp} : ∀ ns : List Int, RDs K G (ns.map .int) (ns.map V.int)
  | [] => .nil
  | n :: ns => .cons (.int n) (rds_ints ns)
theorem se_srt (hg : Gl X "sorted") (hm : X.mg "sorted" = none) (hg2 : Gl X "set") (hm2 : X.mg "set" = none) (calm : X.calm = true) (na : notStar a = true) (ha : SO T X a ma) :
    SE T X (.Call (.Name "sorted" p) [.Call (.Name "set" p2) [a] [] q] [] pos) (M.bind ma fun o => doOp1 srtD o) := fun F tk =>
  PE.weak (pe_srt hg hm hg2 hm2 calm (ha F tk) (star_cons na)) fun σ H Q ⟨e, G, s, q⟩ => by
  refine ⟨e, G, s, (Aft.bind q).mono fun v1 H1 ⟨o1, e1, G1, s1, l1, r1, q1⟩ => ?_⟩
  refine aft_op1 (r := fun x H1 Q => ∃ (l : Addr) (ns : List Int), x = V.ref l ∧ SqL X.K H1 l (ns.map V.int) ∧ ns.length < 4000 ∧ ∀ b, H1 b = none → Q (.ref b) (upd H1 b (.lst ((sortI ns).map V.int)))) (fun G H d v d' Q l r e q => ?_) s1 r1 q1
  cases d <;> simp only [srtD] at e
  case list ds =>
    cases hi : intsOf ds with
    | none => rw [hi] at e; cases e
    | some ns =>
      rw [hi] at e
      simp only [Option.bind_some] at e
      split at e
      · rename_i few
        cases e
        obtain ⟨b, xs, rfl, h1, h2⟩ := r.list l
        have ev := intsOf_vals hi h2
        subst ev
        refine ⟨b, ns, rfl, h1.sq, few, fun p np => ?_⟩
        have w := Grow.one l np (.lst ((sortI ns).map V.int))
        exact q _ _ _ w (.lst (.inl (.inl upd_same)) (rds_ints _))
      · cases e
  all_goals cases e
end
end Tp
/-! Tq3: list(range(a, b)) by data. -/
namespace Tp
open PySem PySem.Spec PyProof.Rows L2
def lrgD : D → D → Option D
  | .int i, .int j => if -(2 ^ 62) ≤ i ∧ i < 2 ^ 62 ∧ -(2 ^ 62) ≤ j ∧ j < 2 ^ 62 ∧ (j - i).toNat ≤ 2 ^ 24 then some (.list (rngs i (j - i).toNat)) else none
  | _, _ => none
section
variable {T : ExcT} {X : Cx} {a b : Expr} {ma mb : M Opd} {p q pos : Pos}
theorem rds_rg {K : Fg} {G : Hp} {i j : Int} : RDs K G (rngs i (j - i).toNat) (rgV i j) := by
  unfold rngs rgV
  induction List.range (j - i).toNat with
  | nil => exact .nil
  | cons x xs ih => exact .cons (.int _) ih
def rLrg : R2 := fun x y H Q => ∃ i j, x = V.int i ∧ y = V.int j ∧ RgOk i j ∧ ∀ q, H q = none → Q (.ref q) (upd H q (.lst (rgV i j)))
theorem op2_lrg {K : Fg} : Op2 K rLrg lrgD := fun G H d1 d2 v1 v2 d' Q l r1 r2 e q => by
  cases d1 <;> cases d2 <;> simp only [lrgD] at e <;> first | (cases e; done) | skip
  rename_i i j
  split at e
  · rename_i h
    cases e
    cases r1.int
    cases r2.int
    refine ⟨i, j, rfl, rfl, h, fun p np => ?_⟩
    have w := Grow.one l np (.lst (rgV i j))
    exact q _ _ _ w (.lst (.inl (.inl upd_same)) rds_rg)
  · cases e
theorem se_lrg (hg : Gl X "list") (hm : X.mg "list" = none) (hg2 : Gl X "range") (hm2 : X.mg "range" = none) (calm : X.calm = true) (na : notStar a = true) (nb : notStar b = true) (ha : SO T X a ma) (hb : SO T X b mb) :
    SE T X (.Call (.Name "list" p) [.Call (.Name "range" q) [a, b] [] pos] [] pos') (M.bind ma fun o1 => M.bind mb fun o2 => doOp2 lrgD o1 o2) := fun F tk =>
  PE.weak (pe_listRg calm hg hm (prg_2 hg2 hm2 (ha F tk) (hb F tk) (by rw [star_cons na] <;> rw [star_cons nb] <;> rfl) (star_cons nb) (by rw [star_cons nb] <;> rfl)) (star_cons rfl)) fun σ H Q ⟨e, G, s, q⟩ => by
  refine ⟨e, G, s, (Aft.bind q).mono fun v1 H1 ⟨o1, e1, G1, s1, l1, r1, q1⟩ => ?_⟩
  refine ⟨e1, G1, s1, (Aft.bind q1).mono fun v2 H2 ⟨o2, e2, G2, s2, l2, r2, q2⟩ => ?_⟩
  exact aft_op2 op2_lrg s2 (rO.le l2 r1) r2 q2
end
end Tp
/-! Tq4: list(zip(a, b)). -/
namespace Tp
open PySem PySem.Spec PyProof.Rows L2
/-- a zip whose own tuple is out -/
abbrev Zs (h : Heap) (z TI TO : Addr) (f : Value) (q : Bool) : Prop :=
  h.get? z = some { cls := .type "zip", dict := none, data := .fields #[f, .bool q, .bool false, .ref TI, .ref TO], slots := #[] }
section
variable {P : Program} {w : World} {A : Around} {E : Value → Shared → Prop} {s : Shared}
theorem alive_at {a : Addr} {o : Obj} {Q : Option Obj → Shared → Prop} (e : s.heap.get? a = some o) (q : Q (some o) s) : wpAny (model P w) A (loadIfAlive a) Q E s := fun Γ p hΓ => by
  unfold loadIfAlive
  rw [Sem.wp_loadIfAlive, e]
  exact q
theorem own_free {z TI TO T : Addr} {q : Bool} {oT : Obj} {Q : Bool → Shared → Prop} (hz : Zs s.heap z TI TO (rawInt T) q) (al : s.heap.get? T = some oT)
    (go : ∀ h', Zs h' z TI TO (rawInt T) true → Heap.SameBut z s.heap h' → Q false { s with heap := h' }) : wpAny (model P w) A (Builtin.SmallTypes.ownedTupleIsFree (.ref z)) Q E s := by
  unfold Builtin.SmallTypes.ownedTupleIsFree
  refine wpAny_bind (wpAny_field hz rfl (x := rawInt T) rfl ?_)
  show wpAny _ _ (loadIfAlive (Int.toNat (T : Int)) >>= _) _ _ _
  refine wpAny_bind (alive_at (o := oT) (by rw [Int.toNat_natCast]; exact al) ?_)
  show wpAny _ _ (field (.ref z) 1 >>= _) _ _ _
  refine wpAny_bind (wpAny_field hz rfl (x := .bool q) rfl ?_)
  cases q
  · show wpAny _ _ (setField (.ref z) 1 (.bool true) >>= _) _ _ _
    exact wpAny_bind (wpAny_setField_rec hz (by simp) fun h' hz' hs' => wpAny_pure (go h' hz' hs'))
  · exact wpAny_pure (go s.heap hz (Heap.SameBut.refl _ _))
theorem zip_out {z TI TO i j l m T : Addr} {n k : Nat} {xs ys : Array Value} {x y : Value} {q : Bool} {oT : Obj} {Q : Value → Shared → Prop} (D : ZipApart z TI TO i j l m)
    (hz : Zs s.heap z TI TO (rawInt T) q) (hI : IsPair s.heap TI (.ref i) (.ref j)) (al : s.heap.get? T = some oT)
    (h1 : s.heap.IsListIter i l n) (h2 : s.heap.IsListIter j m k) (hl : s.heap.IsList l xs) (hm : s.heap.IsList m ys) (hx : xs[n]? = some x) (hy : ys[k]? = some y)
    (go : ∀ h', Zs h' z TI TO (rawInt T) true → h'.IsListIter i l (n + 1) → h'.IsListIter j m (k + 1) → IsPair h' s.heap.objs.size x y → h'.objs.size = s.heap.objs.size + 1 →
      (∀ c o, c ≠ z → c ≠ i → c ≠ j → s.heap.get? c = some o → h'.get? c = some o) → Q (.ref s.heap.objs.size) { s with heap := h' }) :
    wpAny (model P w) A (Builtin.«zip.__next__» ⟨[.ref z], []⟩) (fun fin t => ∃ v, fin = .done (.ret v) ∧ Q v t) E s := by
  show wpAny _ _ (field (.ref z) 2 >>= _) _ _ _
  refine wpAny_bind (wpAny_field hz rfl (x := .bool false) rfl ?_)
  show wpAny _ _ (field (.ref z) 3 >>= _) _ _ _
  refine wpAny_bind (wpAny_field hz rfl (x := .ref TI) rfl ?_)
  refine wpAny_bind (wpAny_seqItems hI rfl ?_)
  show wpAny _ _ (Builtin.SmallTypes.ownedTupleIsFree (.ref z) >>= _) _ _ _
  refine wpAny_bind ?_
  refine own_free hz al fun h3 z3 b3 => ?_
  simp only [Bool.false_eq_true, if_false]
  refine wpAny_bind ?_
  rw [← Array.forIn_toList]
  show wpAny _ _ (forIn [Value.ref i, Value.ref j] _ _) _ _ _
  simp only [List.forIn_cons, List.forIn_nil]
  refine wpAny_bind (wpAny_bind (wpAny_holding ?_))
  show wpAny _ _ (Builtin.SmallTypes.nextOf (.ref i) >>= _) _ _ _
  refine wpAny_bind (wpAny_nextOf_list_item (h1.extBut b3.extBut D.i1z) (hl.extBut b3.extBut D.l1z) hx fun h4 n4 b4 => wpAny_pure (wpAny_pure ?_))
  refine wpAny_bind (wpAny_bind (wpAny_holding ?_))
  show wpAny _ _ (Builtin.SmallTypes.nextOf (.ref j) >>= _) _ _ _
  refine wpAny_bind (wpAny_nextOf_list_item ((h2.extBut b3.extBut D.i2z).extBut b4.extBut D.i12.symm) ((hm.extBut b3.extBut D.l2z).extBut b4.extBut D.l2i1) hy fun h5 n5 b5 => wpAny_pure (wpAny_pure (wpAny_pure ?_)))
  refine wpAny_bind (wpAny_newTuple (hsz := by show 2 ≤ sizeLine; decide) ?_)
  have hs : h5.objs.size = s.heap.objs.size := by rw [b5.1, b4.1, b3.1]
  have up : ∀ c o, c ≠ z → c ≠ i → c ≠ j → s.heap.get? c = some o → h5.get? c = some o := fun c o c1 c2 c3 e => b5.extBut _ _ c3 (b4.extBut _ _ c2 (b3.extBut _ _ c1 e))
  refine wpAny_pure ⟨_, rfl, ?_⟩
  show Q (.ref h5.objs.size) _
  rw [hs]
  have top : (h5.push { cls := .type "tuple", data := .seq #[x, y] }).get? s.heap.objs.size = some { cls := .type "tuple", data := .seq #[x, y] } := by rw [← hs]; exact Heap.get?_push_size _ rfl
  exact go _ (Heap.get?_push_of_some _ (b5.extBut _ _ D.i2z.symm (b4.extBut _ _ D.i1z.symm z3))) ((n4.extBut b5.extBut D.i12).at fun o e => Heap.get?_push_of_some _ e) (n5.at fun o e => Heap.get?_push_of_some _ e) top
    (by rw [Heap.size_push, hs]) fun c o c1 c2 c3 e => Heap.get?_push_of_some _ (up c o c1 c2 c3 e)
theorem zip_over {z TI TO i j l m T : Addr} {n k : Nat} {xs ys : Array Value} {q : Bool} {oT : Obj} {Q : Fin → Shared → Prop} (cold : A.handled = none) (D : ZipApart z TI TO i j l m)
    (hz : Zs s.heap z TI TO (rawInt T) q) (hI : IsPair s.heap TI (.ref i) (.ref j)) (al : s.heap.get? T = some oT)
    (h1 : s.heap.IsListIter i l n) (h2 : s.heap.IsListIter j m k) (hl : s.heap.IsList l xs) (hm : s.heap.IsList m ys) (out : xs[n]? = none ∨ ys[k]? = none)
    (go : ∀ h' e, (∀ c o, c ≠ z → c ≠ i → c ≠ j → s.heap.get? c = some o → h'.get? c = some o) → (∃ o, h'.get? e = some o ∧ o.cls = .type "StopIteration") → E (.ref e) { s with heap := h' }) :
    wpAny (model P w) A (Builtin.«zip.__next__» ⟨[.ref z], []⟩) Q E s := by
  show wpAny _ _ (field (.ref z) 2 >>= _) _ _ _
  refine wpAny_bind (wpAny_field hz rfl (x := .bool false) rfl ?_)
  show wpAny _ _ (field (.ref z) 3 >>= _) _ _ _
  refine wpAny_bind (wpAny_field hz rfl (x := .ref TI) rfl ?_)
  refine wpAny_bind (wpAny_seqItems hI rfl ?_)
  show wpAny _ _ (Builtin.SmallTypes.ownedTupleIsFree (.ref z) >>= _) _ _ _
  refine wpAny_bind ?_
  refine own_free hz al fun h3 z3 b3 => ?_
  simp only [Bool.false_eq_true, if_false]
  refine wpAny_bind ?_
  rw [← Array.forIn_toList]
  show wpAny _ _ (forIn [Value.ref i, Value.ref j] _ _) _ _ _
  simp only [List.forIn_cons, List.forIn_nil]
  refine wpAny_bind (wpAny_bind (wpAny_holding ?_))
  show wpAny _ _ (Builtin.SmallTypes.nextOf (.ref i) >>= _) _ _ _
  cases hx : xs[n]? with
  | none =>
    exact wpAny_bind (wpAny_nextOf_list_end cold (h1.extBut b3.extBut D.i1z) (hl.extBut b3.extBut D.l1z) hx fun h4 e b4 he => go h4 e (fun c o c1 c2 _ x => b4 _ _ c2 (b3.extBut _ _ c1 x)) he)
  | some x =>
    have hy : ys[k]? = none := out.resolve_left (by rw [hx]; exact nofun)
    refine wpAny_bind (wpAny_nextOf_list_item (h1.extBut b3.extBut D.i1z) (hl.extBut b3.extBut D.l1z) hx fun h4 n4 b4 => wpAny_pure (wpAny_pure ?_))
    refine wpAny_bind (wpAny_bind (wpAny_holding ?_))
    show wpAny _ _ (Builtin.SmallTypes.nextOf (.ref j) >>= _) _ _ _
    exact wpAny_bind (wpAny_nextOf_list_end cold ((h2.extBut b3.extBut D.i2z).extBut b4.extBut D.i12.symm) ((hm.extBut b3.extBut D.l2z).extBut b4.extBut D.l2i1) hy fun h5 e b5 he => go h5 e (fun c o c1 c2 c3 x => b5 _ _ c3 (b4.extBut _ _ c2 (b3.extBut _ _ c1 x))) he)
theorem next_out {z TI TO i j l m T : Addr} {n k : Nat} {xs ys : Array Value} {x y : Value} {q : Bool} {oT : Obj} {Q : Option Value → Shared → Prop} (D : ZipApart z TI TO i j l m)
    (hz : Zs s.heap z TI TO (rawInt T) q) (hI : IsPair s.heap TI (.ref i) (.ref j)) (al : s.heap.get? T = some oT)
    (h1 : s.heap.IsListIter i l n) (h2 : s.heap.IsListIter j m k) (hl : s.heap.IsList l xs) (hm : s.heap.IsList m ys) (hx : xs[n]? = some x) (hy : ys[k]? = some y)
    (go : ∀ h', Zs h' z TI TO (rawInt T) true → h'.IsListIter i l (n + 1) → h'.IsListIter j m (k + 1) → IsPair h' s.heap.objs.size x y → h'.objs.size = s.heap.objs.size + 1 →
      (∀ c o, c ≠ z → c ≠ i → c ≠ j → s.heap.get? c = some o → h'.get? c = some o) → Q (some (.ref s.heap.objs.size)) { s with heap := h' }) :
    wpAny (model P w) A (pyNext (.ref z)) Q E s := by
  have kind : s.TypeIs (.ref z) "zip" := ⟨_, hz, rfl⟩
  unfold pyNext
  exact wpAny_bind (wpAny_attempt (wpAny_callSpecial?_slot (name := Str.ofString "__next__") kind F.slot_zip_next
    (wpAny_call_entry F.slot_zip_next kind F.entry_zip_next (zip_out D hz hI al h1 h2 hl hm hx hy fun h' g1 g2 g3 g4 g5 g6 => wpAny_pure (go h' g1 g2 g3 g4 g5 g6)) (F.args_zip_next_1 _))))
theorem next_over {z TI TO i j l m T : Addr} {n k : Nat} {xs ys : Array Value} {q : Bool} {oT : Obj} {Q : Option Value → Shared → Prop} (cold : A.handled = none) (D : ZipApart z TI TO i j l m)
    (hz : Zs s.heap z TI TO (rawInt T) q) (hI : IsPair s.heap TI (.ref i) (.ref j)) (al : s.heap.get? T = some oT)
    (h1 : s.heap.IsListIter i l n) (h2 : s.heap.IsListIter j m k) (hl : s.heap.IsList l xs) (hm : s.heap.IsList m ys) (out : xs[n]? = none ∨ ys[k]? = none)
    (go : ∀ h', (∀ c o, c ≠ z → c ≠ i → c ≠ j → s.heap.get? c = some o → h'.get? c = some o) → Q none { s with heap := h' }) :
    wpAny (model P w) A (pyNext (.ref z)) Q E s := by
  have kind : s.TypeIs (.ref z) "zip" := ⟨_, hz, rfl⟩
  unfold pyNext
  refine wpAny_bind (wpAny_attempt (wpAny_callSpecial?_slot (name := Str.ofString "__next__") kind F.slot_zip_next
    (wpAny_call_entry F.slot_zip_next kind F.entry_zip_next (zip_over cold D hz hI al h1 h2 hl hm out fun h' e g1 he => ?_) (F.args_zip_next_1 _))))
  obtain ⟨o, ho, hc⟩ := he
  exact wpAny_bind (wpAny_isInstance (T := "StopIteration") (b := true) ⟨o, ho, hc⟩ isSubtype_stop (wpAny_pure (go _ g1)))
end
end Tp
/-! Tq5: the walk of list(zip(a, b)). -/
namespace Tp
open PySem PySem.Spec PyProof.Rows L2
structure LZ (X : Cx) (pins : List (Addr × Obj)) (σ : L2.St) (S z TI TO i j l m : Addr) (xs ys : List Value) (n : Nat) (vs : List V) (H : Hp) (s : Shared) : Prop where
  inv : Inv X pins σ (upd H S (.lst vs)) s
  new : H S = none
  fp : ∀ b ∈ [z, TI, TO, i, j], FpOk X pins (upd H S (.lst vs)) b
  pair : IsPair s.heap TI (.ref i) (.ref j)
  w1 : s.heap.IsListIter i l n
  w2 : s.heap.IsListIter j m n
  hl : s.heap.IsList l xs.toArray
  hm : s.heap.IsList m ys.toArray
  to : ∃ a b, IsPair s.heap TO a b
  st : IsZip s.heap z TI TO .none ∨ ∃ (T : Addr) (q : Bool) (a b : Value), Zs s.heap z TI TO (rawInt (T : Nat)) q ∧ IsPair s.heap T a b
  len : vs.length = n
  apart : S ≠ z ∧ S ≠ TI ∧ S ≠ TO ∧ S ≠ i ∧ S ≠ j ∧ S ≠ l ∧ S ≠ m
section
variable {X : Cx} {pins : List (Addr × Obj)} {σ : L2.St} {S z TI TO i j l m : Addr} {xs ys : List Value} {n : Nat} {vs : List V} {H : Hp} {s : Shared} {E : Value → Shared → Prop}
theorem upd_re {T : Addr} {t a b : HO} (ne : T ≠ S) : upd (upd (upd H S a) T t) S b = upd (upd H T t) S b := by
  funext c
  by_cases h1 : c = S
  · subst h1; rw [upd_same, upd_same]
  · rw [upd_ne h1, upd_ne h1]
    by_cases h2 : c = T
    · subst h2; rw [upd_same, upd_same]
    · rw [upd_ne h2, upd_ne h2, upd_ne h1]
/-- one turn: the next pair is pushed -/
theorem LZ.turn (D : ZipApart z TI TO i j l m) (I : LZ X pins σ S z TI TO i j l m xs ys n vs H s) {x y : V} {u v : Value} (hu : xs[n]? = some u) (hv : ys[n]? = some v) (ru : RelV x u) (rv : RelV y v) (few : n < sizeLine) {A : Around}
    {Q : Option Value → Shared → Prop} (go : ∀ (T : Addr) (h' : Heap) (c : Nat) (its : List Value), H T = none → h'.get? S = some { cls := .type "list", dict := none, data := .seq (List.toArray its) c, slots := #[] } → its.length = n →
      (∀ (h2 : Heap) (c2 : Nat), h2.get? S = some { cls := .type "list", dict := none, data := .seq (List.toArray (its ++ [.ref T])) c2, slots := #[] } → (∀ b o, b ≠ S → h'.get? b = some o → h2.get? b = some o) →
        LZ X pins σ S z TI TO i j l m xs ys (n + 1) (vs ++ [.ref T]) (upd H T (.tup [x, y])) { s with heap := h2 }) → Q (some (.ref T)) { s with heap := h' }) :
    wpAny (model X.prog X.w) A (pyNext (.ref z)) Q E s := by
  obtain ⟨a1, a2, a3, a4, a5, a6, a7⟩ := I.apart
  obtain ⟨_, its, c, rvs, eS⟩ := I.inv.hok S _ upd_same
  have hS : S < s.heap.objs.size := Heap.lt_size eS
  have nT : H s.heap.objs.size = none := by
    have q := I.inv.hok.fresh (Nat.le_refl s.heap.objs.size)
    rwa [upd_ne (Nat.ne_of_gt hS)] at q
  have hTI : TI < s.heap.objs.size := Heap.lt_size I.pair
  have hi : i < s.heap.objs.size := by obtain ⟨_, e, _⟩ := I.w1; exact Heap.lt_size e
  have hj : j < s.heap.objs.size := by obtain ⟨_, e, _⟩ := I.w2; exact Heap.lt_size e
  have hz : z < s.heap.objs.size := by
    rcases I.st with q | ⟨T, q, a, b, q1, q2⟩
    · exact Heap.lt_size q
    · exact Heap.lt_size q1
  obtain ⟨p1, p2, hTO⟩ := I.to
  have low : ∀ b ∈ [z, TI, TO, i, j], b ≠ s.heap.objs.size := by
    intro b hb e
    have e' : b = z ∨ b = TI ∨ b = TO ∨ b = i ∨ b = j := by simpa using hb
    have kTO := Heap.lt_size hTO
    rcases e' with r | r | r | r | r
    · exact Nat.ne_of_lt hz (r.symm.trans e)
    · exact Nat.ne_of_lt hTI (r.symm.trans e)
    · exact Nat.ne_of_lt kTO (r.symm.trans e)
    · exact Nat.ne_of_lt hi (r.symm.trans e)
    · exact Nat.ne_of_lt hj (r.symm.trans e)
  have common : ∀ h', (∃ a b, IsPair h' TO a b) → (∃ (T : Addr) (q : Bool) (a b : Value), Zs h' z TI TO (rawInt (T : Nat)) q ∧ IsPair h' T a b ∧ T ≠ S) → h'.IsListIter i l (n + 1) → h'.IsListIter j m (n + 1) → IsPair h' s.heap.objs.size u v →
      (∀ c o, c ≠ z → c ≠ TO → c ≠ i → c ≠ j → s.heap.get? c = some o → h'.get? c = some o) → Q (some (.ref s.heap.objs.size)) { s with heap := h' } := by
    intro h' ⟨t1, t2, b0⟩ b1 b2 b3 b4 b5
    have I1 : Inv X pins σ (upd (upd H S (.lst vs)) s.heap.objs.size (.tup [x, y])) { s with heap := h' } :=
      I.inv.turnedNew (t' := s.toks) (ch := [z, TI, TO, i, j]) (fun c o hb q => b5 c o (fun e => hb (by simp [e])) (fun e => hb (by simp [e])) (fun e => hb (by simp [e])) (fun e => hb (by simp [e])) q) I.fp (Nat.le_refl _)
        ⟨by show 2 ≤ sizeLine; decide, [u, v], .cons ru (.cons rv .nil), ⟨_, b4, rfl, _, rfl⟩⟩
    refine go s.heap.objs.size h' c its nT (b5 S _ a1 a3 a4 a5 eS) (by rw [← rvs.length, I.len]) fun h2 c2 k1 k2 => ?_
    have at1 : (upd (upd H S (.lst vs)) s.heap.objs.size (.tup [x, y])) S = some (.lst vs) := by rw [upd_ne (Nat.ne_of_lt hS), upd_same]
    have I2 : Inv X pins σ (upd (upd (upd H S (.lst vs)) s.heap.objs.size (.tup [x, y])) S (.lst (vs ++ [.ref s.heap.objs.size]))) { s with heap := h2 } :=
      I1.write (t' := s.toks) (by rw [at1]; trivial) (.inl rfl) k2 ⟨_, k1⟩ ⟨by rw [List.length_append, I.len]; exact few, its ++ [.ref s.heap.objs.size], c2, rvs.append (.cons (show RelV (V.ref _) (Value.ref _) from rfl) .nil), k1⟩
    rw [upd_re (Nat.ne_of_gt hS)] at I2
    obtain ⟨T, q, a, b, e1, e2, e3⟩ := b1
    refine ⟨I2, ?_, fun b hb => ?_, ?_, ?_, ?_, ?_, ?_, ⟨t1, t2, k2 _ _ a3.symm b0⟩, .inr ⟨T, q, a, b, k2 _ _ a1.symm e1, k2 _ _ e3 e2⟩, by rw [List.length_append, I.len]; rfl, I.apart⟩
    · rw [upd_ne (Nat.ne_of_lt hS)]; exact I.new
    · obtain ⟨f1, f2⟩ := I.fp b hb
      refine ⟨?_, f2⟩
      by_cases hz : b = S
      · rw [hz, upd_same] at f1; cases f1
      · rw [upd_ne hz] at f1
        rw [upd_ne hz, upd_ne (low b hb)]
        exact f1
    · exact k2 _ _ a2.symm (b5 _ _ D.TIz D.TITO D.TIi1 D.TIi2 I.pair)
    · exact b2.at fun o e => k2 _ _ a4.symm e
    · exact b3.at fun o e => k2 _ _ a5.symm e
    · exact I.hl.at fun o e => k2 _ _ a6.symm (b5 _ _ D.l1z D.l1TO D.l1i1 D.l1i2 e)
    · exact I.hm.at fun o e => k2 _ _ a7.symm (b5 _ _ D.l2z D.l2TO D.l2i1 D.l2i2 e)
  rcases I.st with q | ⟨T, q, a, b, q1, q2⟩
  · exact wpAny_pyNext_zip_item D q I.pair hTO I.w1 I.w2 I.hl I.hm (x := u) (y := v) (by simpa using hu) (by simpa using hv) fun h' g1 g2 g3 g4 g5 g6 g7 => common h' ⟨_, _, g2⟩ ⟨_, false, _, _, g1, g5, Nat.ne_of_gt hS⟩ g3 g4 g5 g7
  · have n1 : T ≠ z := fun e => by subst e; cases congrArg Obj.data (Option.some.inj (q1.symm.trans q2))
    have n2 : T ≠ i := fun e => by subst e; obtain ⟨o, e1, e2, e3⟩ := I.w1; rw [← Option.some.inj (q2.symm.trans e1)] at e3; cases e3
    have n3 : T ≠ j := fun e => by subst e; obtain ⟨o, e1, e2, e3⟩ := I.w2; rw [← Option.some.inj (q2.symm.trans e1)] at e3; cases e3
    have n4 : T ≠ S := fun e => by subst e; have r := congrArg Obj.cls (Option.some.inj (eS.symm.trans q2)); simp at r
    exact next_out D q1 I.pair q2 I.w1 I.w2 I.hl I.hm (x := u) (y := v) (by simpa using hu) (by simpa using hv) fun h' g1 g2 g3 g4 g5 g6 => common h' ⟨_, _, g6 _ _ D.TOz D.TOi1 D.TOi2 hTO⟩ ⟨T, true, a, b, g1, g6 _ _ n1 n2 n3 q2, n4⟩ g2 g3 g4 fun c o c1 _ c3 c4 e => g6 c o c1 c3 c4 e
/-- the end -/
theorem LZ.over (D : ZipApart z TI TO i j l m) (I : LZ X pins σ S z TI TO i j l m xs ys n vs H s) (out : xs[n]? = none ∨ ys[n]? = none) {A : Around} (cold : A.handled = none)
    {Q : Option Value → Shared → Prop} (go : ∀ h', Inv X pins σ (upd H S (.lst vs)) { s with heap := h' } → Q none { s with heap := h' }) :
    wpAny (model X.prog X.w) A (pyNext (.ref z)) Q E s := by
  have done : ∀ h' : Heap, (∀ c o, c ≠ z → c ≠ TO → c ≠ i → c ≠ j → s.heap.get? c = some o → h'.get? c = some o) → Q none { s with heap := h' } := fun h' k =>
    go h' (I.inv.turnedL (t' := s.toks) (ch := [z, TI, TO, i, j]) (fun c o hb q => k c o (fun e => hb (by simp [e])) (fun e => hb (by simp [e])) (fun e => hb (by simp [e])) (fun e => hb (by simp [e])) q) I.fp)
  obtain ⟨p1, p2, hTO⟩ := I.to
  rcases I.st with q | ⟨T, q, a, b, q1, q2⟩
  · exact wpAny_pyNext_zip_end cold D q I.pair hTO I.w1 I.w2 I.hl I.hm (by simpa using out) fun h' k => done h' k
  · exact next_over cold D q1 I.pair q2 I.w1 I.w2 I.hl I.hm (by simpa using out) fun h' k => done h' fun c o c1 _ c3 c4 e => k c o c1 c3 c4 e
end
end Tp
/-! Tq6: list(zip(a, b)), the rule. -/
namespace Tp
open PySem PySem.Spec PyProof.Rows L2
section
variable {X : Cx} {pins : List (Addr × Obj)} {σ : L2.St} {S z TI TO i j l m : Addr} {xs ys : List Value} {n : Nat} {vs : List V} {H : Hp} {s : Shared} {E : Value → Shared → Prop}
/-- a property of the pairs made so far, turn by turn -/
def Turns (as bs : List V) (W : Nat → List V → Hp → Prop) : Prop :=
  ∀ n vs H T x y, as[n]? = some x → bs[n]? = some y → W n vs H → H T = none → W (n + 1) (vs ++ [.ref T]) (upd H T (.tup [x, y]))
theorem LZ.loop {as bs : List V} {W : Nat → List V → Hp → Prop} {A : Around} {R : Result → Shared → Prop} (D : ZipApart z TI TO i j l m) (ra : Vals as xs) (rb : Vals bs ys) (tw : Turns as bs W) (few : min as.length bs.length ≤ sizeLine)
    (cold : A.in1.handled = none) (fin : ∀ vs H s, Inv X pins σ (upd H S (.lst vs)) s → H S = none → W (min as.length bs.length) vs H → R (.ok (.ret .none)) s) :
    ∀ (k n : Nat) (vs : List V) (H : Hp) (s : Shared), min as.length bs.length - n = k → n ≤ min as.length bs.length → LZ X pins σ S z TI TO i j l m xs ys n vs H s → W n vs H →
      codeAny (model X.prog X.w) A (.builtin "list.extend.loop" ⟨[.ref S, .ref z, .none], []⟩) R s := by
  have n1 := ra.length
  have n2 := rb.length
  intro k
  induction k with
  | zero =>
    intro n vs H s hk hn I w
    have e : n = min as.length bs.length := by omega
    refine codeAny_builtin F.entry_extend_loop ?_
    rw [Around.under_plainId F.plain_extend_loop _]
    show wpAny _ A.in1 (pyNext (.ref z) >>= _) _ _ s
    refine wpAny_bind (I.over D ?_ cold fun h' I1 => wpAny_pure (fin vs H _ I1 I.new (by rw [← e]; exact w)))
    rcases Nat.le_total as.length bs.length with q | q
    · exact .inl (List.getElem?_eq_none (by omega))
    · exact .inr (List.getElem?_eq_none (by omega))
  | succ k ih =>
    intro n vs H s hk hn I w
    have h1 : n < as.length := by omega
    have h2 : n < bs.length := by omega
    obtain ⟨u, hu, ru⟩ := ra.get (List.getElem?_eq_getElem h1)
    obtain ⟨v, hv, rv⟩ := rb.get (List.getElem?_eq_getElem h2)
    refine codeAny_builtin F.entry_extend_loop ?_
    rw [Around.under_plainId F.plain_extend_loop _]
    show wpAny _ A.in1 (pyNext (.ref z) >>= _) _ _ s
    refine wpAny_bind (I.turn D hu hv ru rv (by omega) fun T h' c its nT eS il next => ?_)
    show wpAny _ A.in1 (updateSeq S (·.push (.ref T)) >>= _) _ _ _
    refine wpAny_bind (wpAny_updateSeq eS rfl (wpAny_pure ⟨plainId_quiet F.plain_extend_loop _, ?_⟩) (by show (List.toArray its).size ≤ sizeLine; rw [List.size_toArray]; omega) (by show ((List.toArray its).push _).size ≤ sizeLine + 1; rw [Array.size_push, List.size_toArray]; omega))
    have after := Heap.get?_update_self (Obj.mapSeq (·.push (.ref T))) eS rfl
    have I1 := next _ _ (after.trans (by rw [← List.push_toArray]; rfl)) fun b o hb e => (Heap.get?_update_other _ _ (Ne.symm hb)).trans e
    exact ih (n + 1) _ _ _ (by omega) (by omega) I1 (tw n vs H T _ _ (List.getElem?_eq_getElem h1) (List.getElem?_eq_getElem h2) w nT)
end
end Tp
/-! Tq7: list(zip(a, b)): the call, the rule. -/
namespace Tp
open PySem PySem.Spec PyProof.Rows L2
theorem zip_len_none : typeLookup (.type "zip") "__len__" = pure none := by rw [typeLookup_type, builtinLookup_eq_fast]; kernel_rfl
theorem zip_hint_none : typeLookup (.type "zip") "__length_hint__" = pure none := by rw [typeLookup_type, builtinLookup_eq_fast]; kernel_rfl
section
variable {X : Cx} {pins : List (Addr × Obj)} {σ : L2.St} {z TI TO i j l m : Addr} {xs ys : List Value} {H : Hp} {s : Shared} {E : Value → Shared → Prop}
theorem call_list_zip {as bs : List V} {W : Nat → List V → Hp → Prop} {A : Around} {Q : Value → Shared → Prop} (cold : A.handled = none) (D : ZipApart z TI TO i j l m) (ra : Vals as xs) (rb : Vals bs ys) (tw : Turns as bs W) (few : min as.length bs.length ≤ sizeLine)
    (I : Inv X pins σ H s) (fp : ∀ b ∈ [z, TI, TO, i, j], FpOk X pins H b ∧ b < s.heap.objs.size) (hz : IsZip s.heap z TI TO .none) (pair : IsPair s.heap TI (.ref i) (.ref j)) (to : ∃ a b, IsPair s.heap TO a b)
    (w1 : s.heap.IsListIter i l 0) (w2 : s.heap.IsListIter j m 0) (hl : s.heap.IsList l xs.toArray) (hm : s.heap.IsList m ys.toArray) (w : W 0 [] H)
    (q : ∀ (p : Addr) vs H' s', Inv X pins σ (upd H' p (.lst vs)) s' → H' p = none → W (min as.length bs.length) vs H' → Q (.ref p) s') :
    wpAny (model X.prog X.w) A (call (.type "list") [.ref z]) Q E s := by
  refine callType_codes (Q₁ := fun obj t => obj = .ref s.heap.objs.size ∧ t = { s with heap := s.heap.push { cls := .type "list", data := .seq #[] } }) F.called_list (F.typeCall_list_1 _) F.entry_list_init
    (code_list_new _ ⟨rfl, rfl⟩) fun obj t ht => ?_
  obtain ⟨rfl, rfl⟩ := ht
  have hS : (s.heap.push { cls := .type "list", data := .seq #[] }).get? s.heap.objs.size = some { cls := .type "list", data := .seq #[] } := Heap.get?_push_size _ rfl
  have up0 : ∀ b o, s.heap.get? b = some o → (s.heap.push { cls := .type "list", data := .seq #[] }).get? b = some o := fun b o e => Heap.get?_push_of_some _ e
  have ne : ∀ b o, s.heap.get? b = some o → b ≠ s.heap.objs.size := fun b o e => Nat.ne_of_lt (Heap.lt_size e)
  generalize hS0 : s.heap.objs.size = S at hS ne
  generalize s.heap.push { cls := .type "list", data := .seq #[] } = h0 at hS up0
  refine ⟨⟨_, hS, rfl⟩, F.args_list_init_2 _ _, ?_⟩
  show wpAny _ _ (do let old ← Builtin.List.listItems (.ref S); Builtin.List.listUpdate (.ref S) (fun _ => #[]); letGo old.toList.reverse; Builtin.List.listExtendWith (.ref S) (.ref z) .none) _ _ _
  refine wpAny_bind ?_
  unfold Builtin.List.listItems
  refine wpAny_bind (wpAny_seqItems hS rfl (wpAny_pure ?_))
  show wpAny _ _ (updateSeq S (fun _ => #[]) >>= fun _ => letGo (#[] : Array Value).toList.reverse >>= fun _ => Builtin.List.listExtendWith (.ref S) (.ref z) .none) _ _ _
  refine wpAny_bind (wpAny_updateSeq hS rfl ?_)
  have hS1 := Heap.get?_update_self (Obj.mapSeq (fun _ => (#[] : Array Value))) hS rfl
  have up1 : ∀ b o, s.heap.get? b = some o → (h0.update S (Obj.mapSeq (fun _ => (#[] : Array Value)))).get? b = some o := fun b o e => (Heap.get?_update_other _ _ (ne b o e).symm).trans (up0 b o e)
  generalize h0.update S (Obj.mapSeq (fun _ => (#[] : Array Value))) = h1 at hS1 up1
  refine wpAny_bind (wpAny_letGo ?_)
  have zk : IsZip h1 z TI TO .none := up1 _ _ hz
  have kind : ({ s with heap := h1 } : Shared).TypeIs (.ref z) "zip" := ⟨_, zk, rfl⟩
  unfold Builtin.List.listExtendWith
  refine wpAny_bind (wpAny_typeOf kind ?_)
  have nz : S ≠ z := (ne _ _ hz).symm
  have c1 : Builtin.List.listSameRef (.ref S) (.ref z) = false := by simp [Builtin.List.listSameRef, nz]
  have c2 : (Value.type "zip" == Value.type "list") = false := by decide
  have c3 : (Value.type "zip" == Value.type "tuple") = false := by decide
  simp only [c1, c2, c3, Bool.or_false, Bool.false_eq_true, if_false]
  refine wpAny_bind (wpAny_pyIter_zip zk ?_)
  refine wpAny_bind (wpAny_holding ?_)
  unfold Builtin.List.listLengthHint
  refine wpAny_bind (wpAny_specialOf kind zip_len_none ?_)
  show wpAny _ _ (specialOf (Value.ref z) (Str.ofString "__length_hint__") >>= _) _ _ _
  refine wpAny_bind (wpAny_specialOf kind zip_hint_none (wpAny_pure ?_))
  show wpAny _ _ (rule "list.extend.makes-room" >>= fun _ => Builtin.List.listTouch (.ref S) >>= fun _ => again (.builtin "list.extend.loop" ⟨[.ref S, .ref z, .none], []⟩)) _ _ _
  refine wpAny_bind (wpAny_rule (wpAny_bind ?_))
  show wpAny _ _ (updateSeq S (·.push .none) >>= fun _ => updateSeq S (·.pop)) _ _ _
  refine wpAny_bind (wpAny_updateSeq hS1 rfl ?_)
  have hS2 := Heap.get?_update_self (Obj.mapSeq (·.push Value.none)) hS1 rfl
  refine wpAny_updateSeq (hz := by seq_fits) hS2 rfl ?_
  have hS3 := Heap.get?_update_self (Obj.mapSeq (·.pop)) hS2 rfl
  have up3 : ∀ b o, s.heap.get? b = some o → ((h1.update S (Obj.mapSeq (·.push Value.none))).update S (Obj.mapSeq (·.pop))).get? b = some o := fun b o e =>
    (Heap.get?_update_other _ _ (ne b o e).symm).trans ((Heap.get?_update_other _ _ (ne b o e).symm).trans (up1 b o e))
  generalize (h1.update S (Obj.mapSeq (·.push Value.none))).update S (Obj.mapSeq (·.pop)) = h3 at hS3 up3
  have nH : H S = none := I.hok.fresh (Nat.le_of_eq hS0)
  refine wpAny_pure ⟨plainId_quiet F.plain_extend_loop _, LZ.loop (X := X) (A := A.in1) (σ := σ) (pins := pins) D ra rb tw few cold (fun vs H' s' I' n' w' => ?_) _ 0 [] H _ rfl (Nat.zero_le _) ?_ w⟩
  · exact ⟨rfl, q S vs H' s' I' n' w'⟩
  · have far : ∀ b ∈ [z, TI, TO, i, j], b ≠ S := fun b hb e => Nat.ne_of_lt (fp b hb).2 (e.trans hS0.symm)
    refine ⟨I.laid (t' := s.toks) up3 (Nat.le_of_eq hS0) ⟨Nat.zero_le _, [], _, .nil, hS3⟩, nH, fun b hb => ⟨?_, (fp b hb).1.2⟩, up3 _ _ pair, w1.at fun o e => up3 _ _ e, w2.at fun o e => up3 _ _ e, hl.at fun o e => up3 _ _ e, hm.at fun o e => up3 _ _ e, ?_, .inl (up3 _ _ hz), rfl, ?_⟩
    · rw [upd_ne (far b hb)]; exact (fp b hb).1.1
    · obtain ⟨a, b, e⟩ := to
      exact ⟨a, b, up3 _ _ e⟩
    · obtain ⟨o1, e1, _⟩ := hl
      obtain ⟨o2, e2, _⟩ := hm
      exact ⟨(far z (by simp)).symm, (far TI (by simp)).symm, (far TO (by simp)).symm, (far i (by simp)).symm, (far j (by simp)).symm, (ne _ _ e1).symm, (ne _ _ e2).symm⟩
end
end Tp
/-! Tq8: list(zip(a, b)) by data. -/
namespace Tp
open PySem PySem.Spec PyProof.Rows L2
def rLzp (K : Fg) : R2 := fun u v H Q => ∃ a b xs ys, u = V.ref a ∧ v = V.ref b ∧ SqL K H a xs ∧ SqL K H b ys ∧
  ∃ W, Turns xs ys W ∧ W 0 [] H ∧ ∀ us H' p, W (min xs.length ys.length) us H' → H' p = none → Q (.ref p) (upd H' p (.lst us))
section
variable {T : ExcT} {X : Cx} {a b : Expr} {ta tb : TE} {ma mb : M Opd} {p p2 q pos : Pos}
theorem pe_lzp (hg : Gl X "list") (hm : X.mg "list" = none) (hg2 : Gl X "zip") (hm2 : X.mg "zip" = none) (calm : X.calm = true) (ha : PE X a ta) (hb : PE X b tb)
    (na : starEach [a, b] X.env = (false, eval a X.env) :: starEach [b] X.env) (nb : starEach [b] X.env = (false, eval b X.env) :: starEach [] X.env) (hp : (backTo q (starEach [b] X.env)).any (·.1) = false)
    (nz : starEach [Expr.Call (.Name "zip" p2) [a, b] [] q] X.env = (false, eval (Expr.Call (.Name "zip" p2) [a, b] [] q) X.env) :: starEach [] X.env) :
    PE X (.Call (.Name "list" p) [.Call (.Name "zip" p2) [a, b] [] q] [] pos) (fun σ H Q => ta σ H fun u H1 => tb σ H1 fun v H2 => rLzp X.K u v H2 Q) := by
  refine ⟨fun pins s σ H Q I h => ?_⟩
  refine Call_ (ld_blt I hg hm boot_list (PyProof.Rows.callWith_type1 (PyProof.Rows.args_cons (Call_ (ld_blt I hg2 hm2 PyProof.Rows.boot_zip (PyProof.Rows.callWith_type1 (PyProof.Rows.args_cons (thn (ha.run pins s σ H _ I h) fun v s1 ⟨x, H1, I1, r1, q1⟩ =>
    PyProof.Rows.args_cons (thn (hb.run pins s1 σ H1 _ I1 q1) fun v2 s2 ⟨x2, H2, I2, r2, q2⟩ => PyProof.Rows.args_nil ?_) nb) na) na hp))) nz) nz))
  obtain ⟨l1, l2, xs, ys, rfl, rfl, sx, sy, W, tw, w0, q⟩ := q2
  cases r1
  cases r2
  obtain ⟨its, rv, pl, z1⟩ := I2.list sx
  obtain ⟨its2, rv2, pl2, z2⟩ := I2.list sy
  refine call_zip_2 pl.isList pl2.isList fun h' hz hI hO w1 w2 hsz keep => PyProof.Rows.args_nil ?_
  have I3 : Inv X pins σ H2 { s2 with heap := h' } := I2.kept (t' := s2.toks) keep
  refine call_list_zip (σ := σ) (pins := pins) (I2.ok.hd calm) (PySem.W.ktu_apart s2.heap.objs.size l1 l2 pl.lt pl2.lt) rv rv2 tw (Nat.le_trans (Nat.min_le_left ..) z1) I3 (fun c hc => ?_) hz hI ⟨_, _, hO⟩ w1 w2 (pl.isList.at fun o e => keep _ _ e) (pl2.isList.at fun o e => keep _ _ e) w0
    fun p vs H' s' I' n' w' => ⟨.ref p, _, I', rfl, q vs H' p w' n'⟩
  have e' : c = s2.heap.objs.size + 4 ∨ c = s2.heap.objs.size + 2 ∨ c = s2.heap.objs.size + 3 ∨ c = s2.heap.objs.size ∨ c = s2.heap.objs.size + 1 := by simpa using hc
  have lo : s2.heap.objs.size ≤ c := by
    rcases e' with e | e | e | e | e
    · rw [e]; exact Nat.le_add_right _ _
    · rw [e]; exact Nat.le_add_right _ _
    · rw [e]; exact Nat.le_add_right _ _
    · rw [e]; exact Nat.le_refl _
    · rw [e]; exact Nat.le_add_right _ _
  refine ⟨I2.fpOk lo (I2.hok.fresh lo), ?_⟩
  show c < h'.objs.size
  rw [hsz]
  rcases e' with e | e | e | e | e <;> rw [e]
  · exact Nat.lt_succ_self _
  · exact Nat.add_lt_add_left (by decide) _
  · exact Nat.add_lt_add_left (by decide) _
  · exact Nat.lt_add_of_pos_right (by decide)
  · exact Nat.add_lt_add_left (by decide) _
def lzpD : D → D → Option D
  | .list xs, .list ys => some (.list (zipD xs ys))
  | _, _ => none
theorem zipD_len {xs ys : List D} : (zipD xs ys).length = min xs.length ys.length := by simp [zipD]
theorem turns_zip {K : Fg} {G H : Hp} {ds es : List D} {vs us : List V} (l : LeG G H) (r1 : RDs K G ds vs) (r2 : RDs K G es us) :
    Turns vs us fun n ws H' => ∃ G', Grow G H G' H' ∧ RDs K G' ((zipD ds es).take n) ws := by
  rintro n ws H' T x y hx hy ⟨G', g, r⟩ nT
  obtain ⟨d1, k1, q1⟩ := r1.getV hx
  obtain ⟨d2, k2, q2⟩ := r2.getV hy
  have w := Grow.one g.le nT (.tup [x, y])
  have at2 := zipD_get k1 k2
  refine ⟨_, g.trans w, ?_⟩
  rw [List.take_add_one, at2]
  exact (r.le w.g).app (.cons (.tup (.inl (.inl upd_same)) (.cons ((q1.le g.g).le w.g) (.cons ((q2.le g.g).le w.g) .nil))) .nil)
theorem op2_lzp {K : Fg} : Op2 K (rLzp K) lzpD := fun G H d1 d2 v1 v2 d' Q l r1 r2 e q => by
  cases d1 <;> cases d2 <;> simp only [lzpD] at e <;> first | (cases e; done) | skip
  rename_i ds es
  cases e
  obtain ⟨a, xs, rfl, h1, h2⟩ := r1.list l
  obtain ⟨b, ys, rfl, h3, h4⟩ := r2.list l
  refine ⟨a, b, xs, ys, rfl, rfl, h1.sq, h3.sq, _, turns_zip l h2 h4, ⟨G, Grow.refl l, by rw [List.take_zero]; exact .nil⟩, ?_⟩
  rintro us H' p ⟨G', g, r⟩ np
  rw [List.take_of_length_le (by rw [zipD_len, h2.length, h4.length]; exact Nat.le_refl _)] at r
  have w := Grow.one g.le np (.lst us)
  exact q _ _ _ (g.trans w) (.lst (.inl (.inl upd_same)) (r.le w.g))
theorem se_lzp (hg : Gl X "list") (hm : X.mg "list" = none) (hg2 : Gl X "zip") (hm2 : X.mg "zip" = none) (calm : X.calm = true) (na : notStar a = true) (nb : notStar b = true) (ha : SO T X a ma) (hb : SO T X b mb) :
    SE T X (.Call (.Name "list" p) [.Call (.Name "zip" p2) [a, b] [] q] [] pos) (M.bind ma fun o1 => M.bind mb fun o2 => doOp2 lzpD o1 o2) := fun F tk =>
  PE.weak (pe_lzp hg hm hg2 hm2 calm (ha F tk) (hb F tk) (by rw [star_cons na] <;> rfl) (star_cons nb) (by rw [star_cons nb] <;> rfl) (star_cons rfl)) fun σ H Q ⟨e, G, s, q⟩ => by
  refine ⟨e, G, s, (Aft.bind q).mono fun v1 H1 ⟨o1, e1, G1, s1, l1, r1, q1⟩ => ?_⟩
  refine ⟨e1, G1, s1, (Aft.bind q1).mono fun v2 H2 ⟨o2, e2, G2, s2, l2, r2, q2⟩ => ?_⟩
  exact aft_op2 op2_lzp s2 (rO.le l2 r1) r2 q2
end
end Tp
/-! Tq9: {e for x in xs}, e an int: the set as a tracked thing, the comprehension. -/
namespace Tp
open PySem PySem.Spec PyProof.Rows L2
/-- the set at a holds what has been put in -/
def Gst (w : World) (a : Addr) (ks : List Int) : HO := .ext fun h => ∃ n, n ≤ ks.length ∧ SetR w h a (fun j => decide (j ∈ ks)) n
theorem gst_ok {w : World} {P : Program} {H : Hp} {h : Heap} {a : Addr} {ks : List Int} {n : Nat} (le : n ≤ ks.length) (r : SetR w h a (fun j => decide (j ∈ ks)) n) : ObjOk P w H h a (Gst w a ks) := by
  obtain ⟨o, _, _, _, ho, _⟩ := id r
  exact ⟨⟨n, le, r⟩, ⟨o, ho⟩, fun _ _ ⟨m, q, p⟩ k => ⟨m, q, SetR.at p k⟩⟩
section
variable {X : Cx}
theorem gst_get {pins : List (Addr × Obj)} {σ : L2.St} {H : Hp} {s : Shared} {a : Addr} {ks : List Int} (I : Inv X pins σ H s) (ha : H a = some (Gst X.w a ks)) : ∃ n, n ≤ ks.length ∧ SetR X.w s.heap a (fun j => decide (j ∈ ks)) n := (I.hok a _ ha).1
theorem gst_add {pins : List (Addr × Obj)} {σ : L2.St} {H : Hp} {s : Shared} {E : Value → Shared → Prop} {a : Addr} {ks : List Int} {k : Int} {tk : Tok} {Q : Value → Shared → Prop} (I : Inv X pins σ H s) (ha : H a = some (Gst X.w a ks)) (few : ks.length + 1 < scanBound)
    (go : ∀ t, Inv X pins σ (upd H a (Gst X.w a (ks ++ [k]))) t → Q .none t) : wpAny (model X.prog X.w) X.A (call (.builtin "set.add") [.ref a, .int k tk]) Q E s := by
  obtain ⟨n, le, r⟩ := gst_get I ha
  refine setR_add r (by omega) fun h' same fresh => ?_
  have fresh2 : SetR X.w h' a (fun j => decide (j ∈ ks ++ [k])) (if decide (k ∈ ks) = true then n else n + 1) := fresh.congr fun j => by simp
  have le2 : (if decide (k ∈ ks) = true then n else n + 1) ≤ (ks ++ [k]).length := by
    rw [List.length_append]
    simp only [List.length_singleton]
    split <;> omega
  obtain ⟨o, _, _, _, ho, _⟩ := id fresh2
  exact go _ (I.write (e := a) (t' := s.toks + 1) (by rw [ha]; trivial) (.inl rfl) (fun b u hb hu => (same.2 b hb).trans hu) ⟨o, ho⟩ (gst_ok le2 fresh2))
/-- {e for x in xs}, e an int: D the new set -/
def tCs (w : World) (wi : TI) (g : TG) (te : TE) (vs : List Nat) : TE := fun σ H Q => wi σ H fun J H1 => ∀ D, H1 D = none → ∃ W : Nat → Nat → Hp → Prop, (∃ m, W 0 m (upd H1 D (Gst w D []))) ∧ ∀ i m H, W i m H →
  (J.stop i H ∧ Q (.ref D) H) ∨ (J.go i H ∧ ∃ N : Hp → Prop, (∀ H', N H' → ∃ m', m' < m ∧ W (i + 1) m' H') ∧ ∀ x H', J.yld i H x H' → g x (wipe σ vs) H' fun σ2 H2 => wipe σ2 vs = wipe σ vs ∧
    te σ2 H2 fun y H4 => ∃ (k : Int) (ks : List Int), y = .int k ∧ H4 D = some (Gst w D ks) ∧ ks.length + 1 < scanBound ∧ N (upd H4 D (Gst w D (ks ++ [k]))))
theorem pe_cs {elt tg iter : Expr} {scope : Scope} {own : List (PySem.Str × Nat)} {pos : Pos} {wi : TI} {g : TG} {te : TE} (calm : X.calm = true) (nod : X.N.Nodup) (src : PI X tg iter wi) (blk : BlkOk X.N X.env.scope scope own)
    (tgt : ∀ (s : Shared) (H : Hp) (C : Addr) (cl : List (PySem.Str × Addr)) (fp : List Addr), PG (X.blk s H scope (compEnvC scope cl C X.env) fp) tg g)
    (val : ∀ (s : Shared) (H : Hp) (C : Addr) (cl : List (PySem.Str × Addr)) (fp : List Addr), PE (X.blk s H scope (compEnvC scope cl C X.env) fp) elt te) (plain : ∀ x, foldedSetIterable iter X.env x = pure x) :
    PE X (.SetComp elt [⟨tg, iter, [], 0⟩] scope pos) (tCs X.w wi g te (own.map (·.2))) := by
  refine ⟨fun pins s σ H Q I start => ?_⟩
  rw [PpSet.eval_SetComp]
  have clos : ∀ y ∈ scope.names, y.2 = .free → ∃ c, X.env.cells.lookup y.1 = some c := fun y hy e => (blk.free y hy e).elim (fun k => I.ok.has _ (.inl k)) fun k => I.ok.has _ (.inr k)
  refine wpAny_comprehension_free (use := none) rfl plain (closure_ok clos) blk.kind (fun y hy e => by rw [blk.uniq y hy, e]) (thn (src.run pins s σ H _ I start) fun _ sa ga => thn ga fun _ sb ⟨it, fp, tn, J, Ha, ev, Ib, tr, tb, fb, walk⟩ => ?_)
  subst ev
  refine PpSet.newSet_ok (newEnv_comp ?_)
  have nD : Ha sb.heap.objs.size = none := Ib.hok.fresh (Nat.le_refl _)
  obtain ⟨W, ⟨m0, start⟩, turn⟩ := walk sb.heap.objs.size nD
  have Ic : Inv X pins σ (upd Ha sb.heap.objs.size (Gst X.w sb.heap.objs.size [])) { sb with heap := sb.heap.push (fs X.w) } :=
    Ib.laid (t' := sb.toks) (fun _ _ e => Heap.get?_push_of_some _ e) (Nat.le_refl _) (gst_ok (Nat.zero_le _) ((setR_fresh X.w).congr fun j => by simp))
  have under : ∀ b ∈ fp, b < sb.heap.objs.size := fun b hb => by
    obtain ⟨_, e, _⟩ := tr.obj _ _ tb b hb
    exact Heap.lt_size e
  have fc : ∀ b ∈ fp, FpOk X pins (upd Ha sb.heap.objs.size (Gst X.w sb.heap.objs.size [])) b ∧ b < (sb.heap.push (fs X.w)).objs.size := fun b hb =>
    ⟨⟨by rw [upd_ne (Nat.ne_of_lt (under b hb))]; exact (fb b hb).1, (fb b hb).2⟩, by rw [Heap.size_push]; exact Nat.lt_succ_of_lt (under b hb)⟩
  have tc : tn 0 (sb.heap.push (fs X.w)) := tr.keep _ _ _ tb fun _ _ _ e => Heap.get?_push_of_some _ e
  generalize sb.heap.objs.size = D at nD start turn Ic fc ⊢
  generalize upd Ha D (Gst X.w D []) = Hc at start Ic fc
  generalize hsc : ({ sb with heap := sb.heap.push (fs X.w) } : Shared) = sc at Ic
  have esc : sb.heap.push (fs X.w) = sc.heap := by rw [← hsc]
  rw [esc] at fc tc
  have Id := block_start Ic blk nod fc
  have jt := tgt sc Hc sc.heap.objs.size (cellsFrom (sc.heap.objs.size + 1) scope.names (cloFrom X.env.cells scope.names [])) fp
  have jv := val sc Hc sc.heap.objs.size (cellsFrom (sc.heap.objs.size + 1) scope.names (cloFrom X.env.cells scope.names [])) fp
  show codeAny _ _ (.compStart (.SetComp elt [⟨tg, iter, [], 0⟩] scope pos) 0 (.ref it) (.ref D) (compEnvC scope (cellsFrom (sc.heap.objs.size + 1) scope.names (cloFrom X.env.cells scope.names [])) sc.heap.objs.size X.env))
    (compPost (model X.prog X.w) X.A X.xe none (EP X pins σ Q) (.ref D) sc.heap.objs.size) { sc with heap := pushCells (sc.heap.push { cls := .type "dict", data := .dict #[] }) scope.names }
  generalize hen : compEnvC scope (cellsFrom (sc.heap.objs.size + 1) scope.names (cloFrom X.env.cells scope.names [])) sc.heap.objs.size X.env = en at Id jt jv ⊢
  have enL : en.locals = sc.heap.objs.size := by rw [← hen]; rfl
  have td : tn 0 (pushCells (sc.heap.push { cls := .type "dict", data := .dict #[] }) scope.names) := tr.keep _ _ _ tc fun _ _ _ e => pushCells_keeps _ _ _ _ (Heap.get?_push_of_some _ e)
  generalize hsd : ({ sc with heap := pushCells (sc.heap.push { cls := .type "dict", data := .dict #[] }) scope.names } : Shared) = sd at Id ⊢
  have td2 : tn 0 sd.heap := by rw [← hsd]; exact td
  have none0 : ∀ b ∈ fp, Hc b = none := fun b hb => (fc b hb).1.1
  have able : ∀ {τ : L2.St} {H' : Hp} {t : Shared}, Inv (X.blk sc Hc scope en fp) [] τ H' t → (∀ b ∈ fp, H' b = none) → ∀ b ∈ fp, FpOk (X.blk sc Hc scope en fp) [] H' b := fun {τ H' t} J' z b hb =>
    ⟨z b hb, (J'.ok.exf b hb).1, J'.ok.exfs b hb, .inl hb, fun x c e => (J'.ok.exf b hb).2 x c e, fun p hp => absurd (show p ∈ ([] : List (Addr × Obj)) ++ [] from hp) (by simp)⟩
  have run : codeAny (model X.prog X.w) X.A (.compLoop (.SetComp elt [⟨tg, iter, [], 0⟩] scope pos) 0 (.ref it) (.ref D) en) (compPost (model X.prog X.w) X.A X.xe none (EP X pins σ Q) (.ref D) sc.heap.objs.size) sd := by
    refine PpSet.compLoopS_any (fun n t => ∃ i H', Inv (X.blk sc Hc scope en fp) [] (wipe σ (own.map (·.2))) H' t ∧ tn i t.heap ∧ (∀ b ∈ fp, H' b = none) ∧ W i n H') ?_ m0 ⟨0, Hc, Id, td2, none0, start⟩
    rintro n t ⟨i, He, Ie, te', ze, we⟩
    rcases turn i n He we with ⟨stop, post⟩ | ⟨go, N, less, step⟩
    · refine thnF (tr.done (X.blk sc Hc scope en fp) rfl rfl rfl calm i [] t _ He (fun _ _ => False) Ie (able Ie ze) te' stop) fun r t1 ⟨hr, If⟩ => ?_
      subst hr
      have Ig : Inv X pins σ He t1 := Ic.call' (ch := fp) If.os If.base If.hok If.bare fun b hb => ⟨(fc b hb).1.2.2.2.1, (fc b hb).1.2.1, (fc b hb).1.2.2.2.2.1, (fc b hb).1.2.2.2.2.2⟩
      have frL : He sc.heap.objs.size = none := by rw [← enL]; exact If.free
      obtain ⟨m, spaced, _⟩ := If.loc
      have spaced : t1.heap.Ns en.locals m := spaced
      rw [enL] at spaced
      obtain ⟨f0, f1, f2, f3, f4, f5⟩ := Ic.fpOk (Nat.le_refl _) frL
      exact ⟨m, spaced, fun h2 sb2 => ⟨.ref D, He, Ig.turned (t' := t1.toks) (fun b o hb e => (sb2.2 b hb).trans e) f0 f1 f3 f4 f5, rfl, post⟩⟩
    · refine thnF (tr.item (X.blk sc Hc scope en fp) rfl rfl rfl calm i [] t _ He (fun _ _ => False) Ie (able Ie ze) te' go) fun r t1 ⟨u, hr, more⟩ => ?_
      subst hr
      refine thnF more fun _ t2 ⟨x, Hg, Ig, rx, yx, tg2, zg⟩ => ?_
      have held := Ig.pinned (able Ig zg) (tr.obj _ _ tg2)
      refine thnF (jt.run _ t2 _ Hg x u _ held rx (step x Hg yx)) fun _ t3 ⟨σ3, Hh, Ih, same3, q3⟩ => ?_
      refine wpAny_pure ?_
      rw [if_pos rfl]
      refine thnF (jv.run _ t3 σ3 Hh _ Ih q3) fun v t4 ⟨y, Hi, Ii, ry, k, ks, ey, eD, few, nx⟩ => ?_
      subst ey
      obtain ⟨tk, rfl⟩ := ry
      refine gst_add (X := X.blk sc Hc scope en fp) Ii eD few fun t5 Ij => ?_
      obtain ⟨m2, lt2, w2⟩ := less _ nx
      have stay : ∀ b ∈ fp, ∀ o, t2.heap.get? b = some o → t5.heap.get? b = some o ∧ (upd Hi D (Gst X.w D (ks ++ [k]))) b = none := fun b hb o e =>
        let z := Ij.pin (b, o) (List.mem_append_right _ (List.mem_append_right _ (mem_pinsAt hb e)))
        ⟨z.1, z.2.1⟩
      refine ⟨m2, lt2, i + 1, _, (Ij.unpinned (pins := [])).weak (by rw [← same3, wipe_length]) (fun j v e => ?_), tr.keep _ _ _ tg2 fun b hb o e => (stay b hb o e).1, fun b hb => ?_, w2⟩
      · rw [← same3] at e
        exact (wipe_some e).1
      · obtain ⟨o, e, _⟩ := tr.obj _ _ tg2 b hb
        exact (stay b hb o e).2
  exact PpSet.codeAny_compStart_set run (tr.self X.A 0 _ _ _ td2 run)
end
end Tp
/-! Tq10: sorted({e for x in xs}) by data. -/
namespace Tp
open PySem PySem.Spec PyProof.Rows L2
theorem intsOf_app : ∀ {as bs : List D} {ns : List Int}, intsOf (as ++ bs) = some ns → ∃ k m, intsOf as = some k ∧ intsOf bs = some m ∧ ns = k ++ m
  | [], bs, ns, h => ⟨[], ns, rfl, h, rfl⟩
  | a :: as, bs, ns, h => by
    cases a <;> first | (cases h; done) | skip
    rename_i i
    rw [List.cons_append, intsOf] at h
    cases z : intsOf (as ++ bs) with
    | none => rw [z] at h; cases h
    | some q =>
      rw [z] at h
      cases h
      obtain ⟨k, m, h1, h2, h3⟩ := intsOf_app z
      exact ⟨i :: k, m, by rw [intsOf, h1]; rfl, h2, by rw [h3]; rfl⟩
theorem intsOf_two : ∀ {as : List D} {ks : List Int} {c : Int}, intsOf as = some ks → intsOf (as ++ [.int c]) = some (ks ++ [c])
  | [], ks, c, h => by cases h; rfl
  | a :: as, ks, c, h => by
    cases a <;> first | (cases h; done) | skip
    rename_i i
    rw [intsOf] at h
    cases z : intsOf as with
    | none => rw [z] at h; cases h
    | some q =>
      rw [z] at h
      cases h
      rw [List.cons_append, intsOf, intsOf_two z]
      rfl
section
variable {T : ExcT} {X : Cx} {elt tg iter : Expr} {scope : Scope} {own : List (Str × Nat)} {pos : Pos} {mi : M Src} {t : Tgt} {me : M D}
/-- sorted of the set just made -/
def kSrt (w : World) (Q : VK) : VK := fun v H' => ∃ (D : Addr) (ks : List Int), v = .ref D ∧ H' D = some (Gst w D ks) ∧ ks.length < 4000 ∧ ∀ b, H' b = none → Q (.ref b) (upd H' b (.lst ((sortI ks).map V.int))) 
def csM (mi : M Src) (t : Tgt) (vs : List Nat) (me : M D) : M D := M.bind mi fun p e1 =>
  if p.1.length < 4000 ∧ srcOk p vs = true then
    match (wipeE e1 vs).bind (lcLoop t vs (M.pure true) me p.1) with
    | some (ds, e2) => match srtD (.list ds) with | some d => .ok d (backE e1 e2 vs) | none => .stuck
    | none => .stuck
  else .stuck
theorem cs_read (ht : ∀ i ∈ t.slots, i ∈ own.map (·.2)) (hsm : SrcM mi) (hp : NoOwn mi ∨ PureM me) {F : Frm} {σ : L2.St} {H : Hp} {Q : VK} (h : tX T X.K F (rE X.K) (csM mi t (own.map (·.2)) me) σ H Q) :
    tCs X.w (tX T X.K F (rI' X.K) mi) (gT X.K t) (tXn T X.K (rE X.K) me) (own.map (·.2)) σ H (kSrt X.w Q) := by
  obtain ⟨e, G, s, q⟩ := h
  refine ⟨e, G, s, ?_⟩
  generalize hvs : own.map (·.2) = vs at ht q ⊢
  have q0 : Aft T X.K F σ (rI' X.K σ) G (mi e) fun J H1 => ∃ p e1 G1, ((p.2 = none ∨ PureM me) ∧ srcAt p e1) ∧ SR X.K F σ H1 e1 G1 ∧ LeG G G1 ∧ rI' X.K σ G1 p J ∧ p.1.length < 4000 ∧ srcOk p vs = true ∧
      ∃ e2 ds eF ns, wipeE e1 vs = some e2 ∧ lcLoop t vs (M.pure true) me p.1 e2 = some (ds, eF) ∧ intsOf ds = some ns ∧ ns.length < 4000 ∧ Aft T X.K F σ (rE X.K σ) G1 (.ok (.list ((sortI ns).map .int)) (backE e1 eF vs)) Q := by
    unfold csM M.bind at q
    cases hm : mi e with
    | stuck => rw [hm] at q; exact q.elim
    | exc c x e1 => rw [hm] at q; exact q
    | ok p e1 =>
      rw [hm] at q
      intro J H1 G1 s1 l1 r1
      have q := q.weak l1
      simp only at q
      split at q
      · rename_i hz
        cases hw : wipeE e1 vs with
        | none => rw [hw] at q; exact q.elim
        | some e2 =>
          rw [hw] at q
          cases hl : lcLoop t vs (M.pure true) me p.1 e2 with
          | none => simp only [Option.bind_some, hl] at q; exact q.elim
          | some res =>
            obtain ⟨ds, eF⟩ := res
            simp only [Option.bind_some, hl] at q
            cases hs : srtD (.list ds) with
            | none => rw [hs] at q; exact q.elim
            | some d =>
              rw [hs] at q
              cases hn : intsOf ds with
              | none => simp only [srtD, hn, Option.bind_none] at hs; cases hs
              | some ns =>
                simp only [srtD, hn, Option.bind_some] at hs
                split at hs
                · rename_i few
                  cases hs
                  exact ⟨p, e1, G1, ⟨hp.imp (fun h => h e p e1 hm) id, hsm e p e1 hm⟩, s1, l1, r1, hz.1, hz.2, e2, ds, eF, ns, hw, hl, hn, few, q⟩
                · cases hs
      · exact q.elim
  refine q0.mono fun J H1 ⟨p, e1, G1, ⟨hsp, hsa⟩, s1, l1, ⟨S, wk, hS⟩, hz, hok, e2, L, eF, ns, hw, hl, hns, few, q1⟩ D nD => ?_
  have nR : ∀ c ∈ F.R, c.1 ≠ D := fun c hc z => by
    have r := (s1.res c hc).1
    rw [z, nD] at r; cases r
  have away : ∀ j, p.2 = some j → j ∉ vs := fun j hj => by
    unfold srcOk at hok
    rw [hj] at hok
    exact of_decide_eq_true hok
  have hSat : ∀ {F1 : Frm} {H : Hp} {e : Env} {G : Hp}, SR X.K F1 (wipe σ vs) H e G → LeG G1 G → (∀ j, p.2 = some j → e[j]?.bind Slot.mine? = some (.list p.1)) → S G H := fun {F1 H e G} s l hm => by
    refine hS F1 _ H e G s l (fun j hj => by rw [wipe_get, if_neg (away j hj)]) ?_
    unfold srcAt
    cases hj : p.2 with
    | none => trivial
    | some j => exact hm j hj
  have mine2 : ∀ j, p.2 = some j → e2[j]?.bind Slot.mine? = some (.list p.1) := fun j hj => by
    rw [wipeE_off hw (away j hj)]
    unfold srcAt at hsa
    rw [hj] at hsa
    exact hsa
  have s2 := ((s1.wish noW).made (o := Gst X.w D []) nD).wiped hw
  let Pv : Nat → Hp → Prop := fun i H => ∃ (acc : List PyData) (ks : List Int) (e : Env) (G : Hp), SR X.K ((Frm.mk F.H0 F.G0 F.ios F.R noW).plus D (Gst X.w D ks)) (wipe σ vs) H e G ∧ LeG G1 G ∧ intsOf acc = some ks ∧
    (∃ r, lcLoop t vs (M.pure true) me (p.1.drop i) e = some (r, eF) ∧ acc ++ r = L) ∧ (∀ j, p.2 = some j → e[j]?.bind Slot.mine? = some (.list p.1)) ∧ ∀ j ∈ vs, e[j]? = some Slot.no
  refine ⟨fun i m H => m = p.1.length - i ∧ i ≤ p.1.length ∧ Pv i H, ⟨p.1.length, by simp, Nat.zero_le _, [], [], e2, G1, s2, LeG.refl, rfl, ⟨L, by simpa using hl, rfl⟩, mine2, fun j hj => wipeE_no hw hj⟩, ?_⟩
  rintro i m H ⟨rfl, hi, acc, ks, e, G, sr, lg, ia, ⟨r, hr, hL⟩, hmine, hno⟩
  by_cases hlt : i < p.1.length
  · refine .inr ⟨wk.goes i G H hlt sr.le (hSat sr lg hmine), Pv (i + 1), fun H' p' => ⟨p.1.length - (i + 1), by omega, rfl, hlt, p'⟩, fun x H' y => ?_⟩
    obtain ⟨d, Gx, hd, gr, rdx⟩ := wk.yields i G H x H' hlt sr.le (hSat sr lg hmine) y
    have hdrop : p.1.drop i = d :: p.1.drop (i + 1) := by
      obtain ⟨h1, h2⟩ := List.getElem?_eq_some_iff.mp hd
      rw [← h2]
      exact List.drop_eq_getElem_cons h1
    rw [hdrop] at hr
    unfold lcLoop at hr
    cases hb : t.bind d e with
    | none => rw [hb] at hr; cases hr
    | some e3 =>
      rw [hb] at hr
      simp only [M.pure_ap] at hr
      refine ⟨_, d, e, e3, Gx, sr.grow gr, rdx, hb, fun σ2 s3 wp => ?_⟩
      have wσ : wipe σ2 vs = wipe σ vs := by rw [wp vs ht, wipe_wipe]
      refine ⟨(wσ.trans (by first | rfl | rw [wipe_wipe])), ?_⟩
      have mine3 : ∀ j, p.2 = some j → e3[j]?.bind Slot.mine? = some (.list p.1) := fun j hj => by
        rw [Tgt.bind_off hb fun z => away j hj (ht j z)]
        exact hmine j hj
      refine ⟨_, rfl, e3, Gx, s3, ?_⟩
      cases hv : me e3 with
      | stuck => rw [hv] at hr; cases hr
      | exc c x e5 => rw [hv] at hr; cases hr
      | ok dv e5 =>
        rw [hv] at hr
        simp only at hr
        intro yv H4 G4 s4 l4 rdv
        have mine5 : ∀ j, p.2 = some j → e5[j]?.bind Slot.mine? = some (.list p.1) := fun j hj => by
          rcases hsp with z | z
          · rw [z] at hj; cases hj
          · rw [z _ _ _ hv]; exact mine3 j hj
        cases hw5 : wipeE e5 vs with
        | none => rw [hw5] at hr; cases hr
        | some e6 =>
          rw [hw5] at hr
          simp only [Option.bind_some] at hr
          cases hr2 : lcLoop t vs (M.pure true) me (p.1.drop (i + 1)) e6 with
          | none => rw [hr2] at hr; cases hr
          | some r2 =>
            obtain ⟨r2, ef2⟩ := r2
            rw [hr2] at hr
            cases hr
            have hns2 := hns
            rw [← hL] at hns2
            obtain ⟨k1, k2, h1, h2, h3⟩ := intsOf_app hns2
            rw [ia] at h1
            cases h1
            cases dv <;> first | (cases h2; done) | skip
            rename_i c
            rw [intsOf] at h2
            have lk : ks.length + 1 < 4000 := by
              have z := congrArg List.length h3
              rw [List.length_append] at z
              have : 1 ≤ k2.length := by
                cases z2 : intsOf r2 with
                | none => rw [z2] at h2; cases h2
                | some q2 => rw [z2] at h2; cases h2; simp
              omega
            cases rdv
            refine ⟨c, ks, rfl, (s4.res (D, Gst X.w D ks) List.mem_cons_self).1, by unfold scanBound; omega, ?_⟩
            have s6 := (SR.remade (o' := Gst X.w D (ks ++ [c])) s4 nR).wiped hw5
            rw [wσ] at s6
            refine ⟨acc ++ [.int c], ks ++ [c], e6, G4, s6, lg.trans (gr.g.trans l4), ?_, ⟨r2, hr2, by rw [List.append_assoc]; exact hL⟩, fun j hj => by rw [wipeE_off hw5 (away j hj)]; exact mine5 j hj, fun j hj => wipeE_no hw5 hj⟩
            exact intsOf_two ia
  · have ei : i = p.1.length := by omega
    subst ei
    refine .inl ⟨wk.stops G H sr.le (hSat sr lg hmine), ?_⟩
    rw [List.drop_length] at hr
    unfold lcLoop at hr
    cases hr
    rw [List.append_nil] at hL
    subst hL
    rw [hns] at ia
    cases ia
    have sb := SR.back (e1 := e1) s1.vals lg sr hno
    have sb2 : SR X.K F σ H (backE e1 eF vs) G := SR.unwish (W := noW) sb.unplus
    refine ⟨D, ns, rfl, (sr.res (D, Gst X.w D ns) List.mem_cons_self).1, few, fun b nb => ?_⟩
    have w := Grow.one sb2.le nb (.lst ((sortI ns).map V.int))
    exact q1 (.ref b) _ _ (sb2.grow w) (lg.trans w.g) (show RD X.K _ _ _ from .lst (.inl (.inl upd_same)) (rds_ints _))
/-- the call of sorted -/
theorem pe_scs {a : Expr} {ta : TE} {p : Pos} (hg : Gl X "sorted") (hm : X.mg "sorted" = none) (calm : X.calm = true) (ha : PE X a ta) (na : starEach [a] X.env = (false, eval a X.env) :: starEach [] X.env) :
    PE X (.Call (.Name "sorted" p) [a] [] pos) (fun σ H Q => ta σ H (kSrt X.w Q)) := by
  refine ⟨fun pins s σ H Q I h => Call_ (ld_blt I hg hm PyProof.Rows.boot_sorted ?_)⟩
  refine PyProof.Rows.callWith_builtin1 (PyProof.Rows.args_cons (thn (ha.run pins s σ H _ I h) fun v s1 ⟨x, H1, I1, r1, q1⟩ => PyProof.Rows.args_nil ?_) na) na rfl
  obtain ⟨D, ks, rfl, at1, few, q⟩ := q1
  cases r1
  obtain ⟨n, le, members⟩ := gst_get I1 at1
  refine sorted_members members (I1.ok.hd calm) fun s3 b got cc ms keep3 g3 o3 up3 at3 int3 inc3 mem3 => ?_
  have same : ms = sortI ks := inc_unique inc3 (sortI_inc ks) fun k => by rw [mem3, sortI_mem, decide_eq_true_eq]
  subst same
  have len3 : ((sortI ks).map V.int).length ≤ sizeLine := by
    rw [List.length_map]
    exact Nat.le_trans (sortI_len ks) (Nat.le_trans (Nat.le_of_lt few) (by decide))
  have new : H1 b = none := I1.hok.fresh up3
  obtain ⟨h3, gg, dr, tk, os⟩ := s3
  cases (show os = s1.os from o3)
  have I3 : Inv X pins σ (upd H1 b (.lst ((sortI ks).map V.int))) { s1 with heap := h3, gens := gg, drawn := dr, toks := tk } := I1.call (g' := gg) (d' := dr) (t' := tk) (ch := []) (Un.laid keep3 up3 new) (I1.hok.laid keep3 up3 ⟨len3, got.toList, cc, vals_of_ints int3, at3⟩) (by rw [show gg = s1.gens from g3]; exact I1.bare) (fun _ z => nomatch z)
  exact ⟨.ref b, _, I3, rfl, q b new⟩
/-- sorted({e for x in xs}) -/
theorem se_scs {p : Pos} {cpos : Pos} (hg : Gl X "sorted") (hm : X.mg "sorted" = none) (calm : X.calm = true) (nod : X.N.Nodup) (hi : SI T X tg iter mi) (blk : BlkOk X.N X.env.scope scope own)
    (hb : ∀ (s : Shared) (H : Hp) (C : Addr) (cl : List (Str × Addr)) (fp : List Addr), SG (X.blk s H scope (compEnvC scope cl C X.env) fp) tg t)
    (he : ∀ (s : Shared) (H : Hp) (C : Addr) (cl : List (Str × Addr)) (fp : List Addr), SE T (X.blk s H scope (compEnvC scope cl C X.env) fp) elt me)
    (ht : ∀ i ∈ t.slots, i ∈ own.map (·.2)) (hsm : SrcM mi) (hp : NoOwn mi ∨ PureM me) (hs : notSet iter = true) :
    SE T X (.Call (.Name "sorted" p) [.SetComp elt [⟨tg, iter, [], 0⟩] scope cpos] [] pos) (csM mi t (own.map (·.2)) me) := fun F tk =>
  PE.weak (pe_scs hg hm calm (pe_cs (g := gT X.K t) (te := tXn T X.K (rE X.K) me) calm nod (hi F tk) blk (fun s H C cl fp => hb s H C cl fp) (fun s H C cl fp => (he s H C cl fp).n) (notSet_iter hs)) (star_cons rfl)) fun σ H Q q => cs_read ht hsm hp q
end
end Tp
/-! Tq11: sorted, max and min of rows of data that are alike. -/
namespace Tp
open PySem PySem.Spec PyProof.Rows L2
/-- rows that can be sorted -/
def tup1 : D → Bool
  | .tuple (_ :: _) => true
  | _ => false
def flat1 : D → Bool
  | .none => false
  | .tuple _ => false
  | _ => true
def srtOkD (ds : List D) : Bool := (ds.all fun d => ds.all fun e => PySem.W.alike d e) && (ds.all tup1 || ds.all flat1) && SeqAt.shaped (.list ds)
/-- one is not behind the other -/
def leD (x y : D) : Bool := !PySem.W.dataLt y x
def srdD : List D → Option D
  | [.list ds] => if srtOkD ds = true then some (.list (ds.mergeSort leD)) else none
  | _ => none
theorem srtOkD_alike {ds : List D} (h : srtOkD ds = true) : PySem.W.AllAlike ds ∧ PySem.W.Sortable ds ∧ SeqAt.shaped (.list ds) = true := by
  unfold srtOkD at h
  rw [Bool.and_eq_true, Bool.and_eq_true, Bool.or_eq_true, List.all_eq_true, List.all_eq_true, List.all_eq_true] at h
  obtain ⟨⟨h1, h2⟩, h3⟩ := h
  refine ⟨fun d hd e he => List.all_eq_true.mp (h1 d hd) e he, ?_, h3⟩
  rcases h2 with h2 | h2
  · refine .inl fun d hd => ?_
    have := h2 d hd
    unfold tup1 at this
    split at this
    · exact ⟨_, _, rfl⟩
    · cases this
  · refine .inr fun d hd => ?_
    have := h2 d hd
    unfold flat1 at this
    split at this
    · cases this
    · cases this
    · rename_i a b
      exact ⟨a, b⟩
section
variable {X : Cx} {pins : List (Addr × Obj)} {σ : L2.St} {H : Hp} {s : Shared}
theorem each_rows (I : Inv X pins σ H s) : ∀ {ds : List D} {xs : List V} {us : List Value}, DpAll X.K H xs ds → Vals xs us → PySem.W.EachIs (fun u (b : V × D) => RelV b.1 u) us (xs.zip ds) ∧ PySem.W.EachIs (fun u (b : V × D) => ∃ as, Reads s.heap u b.2 as) us (xs.zip ds)
  | [], _, _, h, r => by
    cases h
    cases r
    exact ⟨.nil, .nil⟩
  | d :: ds, _, _, h, r => by
    cases h with
    | cons h1 h2 =>
      cases r with
      | cons r1 r2 =>
        obtain ⟨a, b⟩ := each_rows I h2 r2
        exact ⟨.cons r1 a, .cons (Dp.reads I d _ _ h1 r1) b⟩
theorem vals_each : ∀ {zs : List (V × D)} {us : List Value}, PySem.W.EachIs (fun u (b : V × D) => RelV b.1 u) us zs → Vals (zs.map (·.1)) us
  | _, _, .nil => .nil
  | _, _, .cons h t => .cons h (vals_each t)
def rSortedD (K : Fg) : List V → Hp → VK → Prop := fun vs H Q => ∃ (a : Addr) (xs : List V) (ds : List D), vs = [V.ref a] ∧ SqL K H a xs ∧ DpAll K H xs ds ∧ srtOkD ds = true ∧
  ∀ (zs : List (V × D)) (p : Addr), zs = (xs.zip ds).mergeSort (PySem.W.dataLe false (·.2)) → H p = none → Q (.ref p) (upd H p (.lst (zs.map (·.1))))
theorem dp_len {K : Fg} {H : Hp} : ∀ {xs : List V} {ds : List D}, DpAll K H xs ds → xs.length = ds.length
  | _, _, .nil => rfl
  | _, _, .cons _ t => congrArg (· + 1) (dp_len t)
theorem cr_sortedD (hu : X.A.units + 70 < cLine) : CallR X (.builtin "sorted") (rSortedD X.K) := by
  intro pins s σ H vs us Q I r h
  obtain ⟨a, xs, ds, rfl, hs, hd, ok, q⟩ := h
  obtain ⟨its, rv, hl, hz⟩ := I.list hs
  rw [Vals.ref1 r]
  obtain ⟨k1, k2, k3⟩ := srtOkD_alike ok
  obtain ⟨e, er⟩ := each_rows I hd rv
  have len := dp_len hd
  have em : (xs.zip ds).map (·.2) = ds := by
    rw [← List.unzip_snd, List.unzip_zip (by exact len)]
  have dep : ∀ d ∈ ds, d.depth ≤ 64 := fun d hm => by
    unfold SeqAt.shaped at k3
    rw [Bool.and_eq_true, decide_eq_true_eq] at k3
    have k3 := k3.2
    have : PyData.depth (.list ds) = PyData.depthAll ds + 1 := by rw [PyData.depth]
    rw [this] at k3
    have : ∀ {l : List D}, d ∈ l → d.depth ≤ PyData.depthAll l := by
      intro l
      induction l with
      | nil => intro h; cases h
      | cons x l ih =>
        intro h
        rw [PyData.depthAll]
        rcases List.mem_cons.mp h with rfl | h
        · exact Nat.le_max_left _ _
        · exact Nat.le_trans (ih h) (Nat.le_max_right _ _)
    have := this hm
    omega
  have zl : (xs.zip ds).length = xs.length := by rw [List.length_zip, len]; exact Nat.min_self _
  refine PySem.W.sorted_data (enc := fun b : V × D => b.2) hl.isList e er (by rw [em]; exact k1) (by rw [em]; exact k2) (by rw [zl]; exact hz) (fun b hb => ?_) fun out ho eo => ?_
  · have : b.2 ∈ ds := by rw [← em]; exact List.mem_map.mpr ⟨b, hb, rfl⟩
    have := dep _ this
    omega
  · obtain ⟨n, hn⟩ := sortedAll_at s.heap its (List.toArray out)
    generalize hzs : (xs.zip ds).mergeSort (PySem.W.dataLe false fun b : V × D => b.2) = zs at eo
    have vo := vals_each eo
    have zsl : zs.length = xs.length := by rw [← hzs, List.length_mergeSort, zl]
    refine ⟨.ref (s.heap.objs.size + 1), upd H (s.heap.objs.size + 1) (.lst (zs.map (·.1))), I.laid (t' := s.toks) (fun b o => sortedAll_old) (Nat.le_succ _) ⟨?_, out, n, vo, hn⟩, rfl, q zs _ hzs.symm (I.hok.fresh (Nat.le_succ _))⟩
    rw [List.length_map, zsl]
    exact hz
end
section
variable {K : Fg}
theorem shaped_all {ds : List D} (h : SeqAt.shaped (.list ds) = true) : PyData.canLayAll0 ds = true := by
  have := shaped_lay h
  simpa [PyData.canLay0] using this
theorem rds_zip {G : Hp} : ∀ {ds : List D} {xs : List V}, RDs K G ds xs → ∀ z ∈ xs.zip ds, RD K G z.2 z.1
  | _, _, .nil, z, h => by cases h
  | _, _, .cons a b, z, h => by
    rw [List.zip_cons_cons] at h
    rcases List.mem_cons.mp h with rfl | h
    · exact a
    · exact rds_zip b z h
theorem rds_of {G : Hp} : ∀ {zs : List (V × D)}, (∀ z ∈ zs, RD K G z.2 z.1) → RDs K G (zs.map (·.2)) (zs.map (·.1))
  | [], _ => .nil
  | z :: zs, h => .cons (h z List.mem_cons_self) (rds_of fun y hy => h y (List.mem_cons_of_mem _ hy))
theorem opN_srd : OpN K (rSortedD K) srdD := fun G H ds vs d' Q l r e q => by
  unfold srdD at e
  split at e
  · rename_i ds
    split at e
    · rename_i ok
      cases e
      obtain ⟨v, rfl, rr⟩ := r.one
      obtain ⟨a, xs, rfl, h1, h2⟩ := rr.list l
      obtain ⟨_, _, k3⟩ := srtOkD_alike ok
      refine ⟨a, xs, ds, rfl, h1.sq, DpAll.le l (RDs.dp (shaped_all k3) h2), ok, fun zs p hz np => ?_⟩
      have w := Grow.one l np (.lst (zs.map (·.1)))
      have len := h2.length
      have em : (xs.zip ds).map (·.2) = ds := by
        rw [← List.unzip_snd, List.unzip_zip (by omega)]
      have ez : zs.map (·.2) = ds.mergeSort leD := by
        rw [hz, List.map_mergeSort (r := PySem.W.dataLe false fun b : V × D => b.2) (s := leD) (f := fun b : V × D => b.2) (l := xs.zip ds) (fun a _ b _ => rfl), em]
      have rz : ∀ z ∈ zs, RD K G z.2 z.1 := fun z hz' => rds_zip h2 z (by rw [hz] at hz'; exact (List.mergeSort_perm _ _).mem_iff.mp hz')
      have rr := rds_of rz
      rw [ez] at rr
      exact q _ _ _ w (.lst (.inl (.inl upd_same)) (rr.le w.g))
    · cases e
  · cases e
/-- the rows that max and min take -/
def mxOk (ds : List D) : Bool := (ds.all fun d => ds.all fun e => PySem.W.alike d e) && (ds.all fun d => match d with | .none => false | _ => true) && SeqAt.shaped (.list ds)
theorem mxOk_alike {ds : List D} (h : mxOk ds = true) : PySem.W.AlikeAll ds ∧ SeqAt.shaped (.list ds) = true := by
  unfold mxOk at h
  rw [Bool.and_eq_true, Bool.and_eq_true, List.all_eq_true, List.all_eq_true] at h
  obtain ⟨⟨h1, h2⟩, h3⟩ := h
  refine ⟨⟨fun d hd e he => List.all_eq_true.mp (h1 d hd) e he, fun d hd z => ?_⟩, h3⟩
  have := h2 d hd
  subst z
  cases this
def rowOf : D → Option (List D)
  | .list ds => some ds
  | .tuple ds => some ds
  | _ => none
def mxG (f : D → List D → D) : List D → Option D
  | [d] => match rowOf d with
    | some (x :: xs) => if mxOk (x :: xs) = true then some (f x xs) else none
    | _ => none
  | _ => none
def mxD (ds : List D) : Option D := match maxD ds with | some d => some d | none => mxG PySem.W.maxD ds
def mnD (ds : List D) : Option D := match minD ds with | some d => some d | none => mxG PySem.W.minD ds
theorem mx_of {ds : List D} {d : D} (h : maxD ds = some d) : mxD ds = some d := by unfold mxD; rw [h]
theorem mn_of {ds : List D} {d : D} (h : minD ds = some d) : mnD ds = some d := by unfold mnD; rw [h]
def rMxD (f : D → List D → D) (K : Fg) : List V → Hp → VK → Prop := fun vs H Q => ∃ (a : Addr) (xs : List V) (x : D) (ds : List D), vs = [V.ref a] ∧ (SqL K H a xs ∨ SqT K H a xs) ∧ DpAll K H xs (x :: ds) ∧ mxOk (x :: ds) = true ∧
  ∀ (i : Nat) (v : V) (d : D), xs[i]? = some v → (x :: ds)[i]? = some d → d = f x ds → Q v H
theorem vals_get : ∀ {xs : List V} {us : List Value} {i : Nat} {u : Value}, Vals xs us → us[i]? = some u → ∃ v, xs[i]? = some v ∧ RelV v u
  | _, _, _, _, .nil, h => by simp at h
  | _, _, 0, u, .cons r t, h => by
    simp only [List.getElem?_cons_zero, Option.some.injEq] at h
    subst h
    exact ⟨_, rfl, r⟩
  | _, _, i + 1, u, .cons r t, h => by
    obtain ⟨v, h1, h2⟩ := vals_get (i := i) t (by simpa using h)
    exact ⟨v, by simpa using h1, h2⟩
theorem reads_get {h : Heap} : ∀ {ds : List D} {us : List Value} {as : List Addr} {i : Nat} {u : Value}, ReadsAll h us ds as → us[i]? = some u → ∃ d bs, ds[i]? = some d ∧ Reads h u d bs ∧ d ∈ ds
  | _, _, _, _, _, .nil, h => by simp at h
  | _, _, _, 0, u, .cons r t, h => by
    simp only [List.getElem?_cons_zero, Option.some.injEq] at h
    subst h
    exact ⟨_, _, rfl, r, List.mem_cons_self⟩
  | _, _, _, i + 1, u, .cons r t, h => by
    obtain ⟨d, bs, h1, h2, h3⟩ := reads_get (i := i) t (by simpa using h)
    exact ⟨d, bs, by simpa using h1, h2, List.mem_cons_of_mem _ h3⟩
theorem fold_in {α : Type} (f : α → α → Bool) : ∀ (xs : List α) (x : α), xs.foldl (fun a y => if f a y = true then y else a) x = x ∨ xs.foldl (fun a y => if f a y = true then y else a) x ∈ xs
  | [], _ => .inl rfl
  | y :: xs, x => by
    rw [List.foldl_cons]
    rcases fold_in f xs (if f x y = true then y else x) with h | h
    · rw [h]
      split
      · exact .inr List.mem_cons_self
      · exact .inl rfl
    · exact .inr (List.mem_cons_of_mem _ h)
theorem wmax_mem (x : D) (xs : List D) : PySem.W.maxD x xs ∈ x :: xs := by
  unfold PySem.W.maxD
  rcases fold_in (fun a y => PySem.W.dataLt a y) xs x with h | h
  · rw [h]; exact List.mem_cons_self
  · exact List.mem_cons_of_mem _ h
theorem wmin_mem (x : D) (xs : List D) : PySem.W.minD x xs ∈ x :: xs := by
  unfold PySem.W.minD
  rcases fold_in (fun a y => PySem.W.dataLt y a) xs x with h | h
  · rw [h]; exact List.mem_cons_self
  · exact List.mem_cons_of_mem _ h
end
section
variable {X : Cx}
theorem cr_mxD (hu : X.A.units + 70 < cLine) (hc : X.calm = true) : CallR X (.builtin "max") (rMxD PySem.W.maxD X.K) := by
  intro pins s σ H vs us Q I r h
  obtain ⟨a, xs, x, ds, rfl, hs, hd, ok, q⟩ := h
  rw [Vals.ref1 r]
  obtain ⟨k1, k2⟩ := mxOk_alike ok
  have dep : PyData.depthAll (x :: ds) ≤ 64 := by
    unfold SeqAt.shaped at k2
    rw [Bool.and_eq_true, decide_eq_true_eq] at k2
    have : PyData.depth (.list (x :: ds)) = PyData.depthAll (x :: ds) + 1 := by rw [PyData.depth]
    omega
  have fin : ∀ (its : List Value) (rv : Vals xs its) (i : Nat) (v : Value) (h' : Heap) (tk : Nat) (bs : List Addr), its[i]? = some v → Reads h' v (PySem.W.maxD x ds) bs → (∀ b o, s.heap.get? b = some o → h'.get? b = some o) → ∃ w H', Inv X pins σ H' { s with heap := h', toks := tk } ∧ RelV w v ∧ Q w H' := fun its rv i v h' tk bs e1 e2 e3 => by
    obtain ⟨as, ra⟩ := Dp.readsAll I _ _ _ hd rv
    obtain ⟨w, w1, w2⟩ := vals_get rv e1
    obtain ⟨d, cs, d1, d2, d3⟩ := reads_get ra e1
    have mm := wmax_mem x ds
    have ed : d = PySem.W.maxD x ds := PySem.W.alike_unique _ _ _ _ _ (k1.1 d d3 _ mm) (PyProof.Rows.Reads.keeps (fun b o => e3 b o) d2) e2
    exact ⟨w, H, I.kept e3, w2, q i w d w1 d1 ed⟩
  rcases hs with hs | hs
  · obtain ⟨its, rv, hl, hz⟩ := I.list hs
    obtain ⟨as, ra⟩ := Dp.readsAll I _ _ _ hd rv
    exact PySem.W.max_list_data (I.ok.hd hc) hl.isList (by simpa using ra) k1 (by omega) fun i v h' tk bs e1 e2 e3 => fin its rv i v h' tk bs (by simpa using e1) e2 e3
  · obtain ⟨its, rv, hl, hz⟩ := I.tuple hs
    obtain ⟨as, ra⟩ := Dp.readsAll I _ _ _ hd rv
    exact PySem.W.max_tuple_data (I.ok.hd hc) hl (by simpa using ra) k1 (by omega) fun i v h' tk bs e1 e2 e3 => fin its rv i v h' tk bs (by simpa using e1) e2 e3
theorem cr_mnD (hu : X.A.units + 70 < cLine) (hc : X.calm = true) : CallR X (.builtin "min") (rMxD PySem.W.minD X.K) := by
  intro pins s σ H vs us Q I r h
  obtain ⟨a, xs, x, ds, rfl, hs, hd, ok, q⟩ := h
  rw [Vals.ref1 r]
  obtain ⟨k1, k2⟩ := mxOk_alike ok
  have dep : PyData.depthAll (x :: ds) ≤ 64 := by
    unfold SeqAt.shaped at k2
    rw [Bool.and_eq_true, decide_eq_true_eq] at k2
    have : PyData.depth (.list (x :: ds)) = PyData.depthAll (x :: ds) + 1 := by rw [PyData.depth]
    omega
  have fin : ∀ (its : List Value) (rv : Vals xs its) (i : Nat) (v : Value) (h' : Heap) (tk : Nat) (bs : List Addr), its[i]? = some v → Reads h' v (PySem.W.minD x ds) bs → (∀ b o, s.heap.get? b = some o → h'.get? b = some o) → ∃ w H', Inv X pins σ H' { s with heap := h', toks := tk } ∧ RelV w v ∧ Q w H' := fun its rv i v h' tk bs e1 e2 e3 => by
    obtain ⟨as, ra⟩ := Dp.readsAll I _ _ _ hd rv
    obtain ⟨w, w1, w2⟩ := vals_get rv e1
    obtain ⟨d, cs, d1, d2, d3⟩ := reads_get ra e1
    have mm := wmin_mem x ds
    have ed : d = PySem.W.minD x ds := PySem.W.alike_unique _ _ _ _ _ (k1.1 d d3 _ mm) (PyProof.Rows.Reads.keeps (fun b o => e3 b o) d2) e2
    exact ⟨w, H, I.kept e3, w2, q i w d w1 d1 ed⟩
  rcases hs with hs | hs
  · obtain ⟨its, rv, hl, hz⟩ := I.list hs
    obtain ⟨as, ra⟩ := Dp.readsAll I _ _ _ hd rv
    exact PySem.W.min_list_data (I.ok.hd hc) hl.isList (by simpa using ra) k1 (by omega) fun i v h' tk bs e1 e2 e3 => fin its rv i v h' tk bs (by simpa using e1) e2 e3
  · obtain ⟨its, rv, hl, hz⟩ := I.tuple hs
    obtain ⟨as, ra⟩ := Dp.readsAll I _ _ _ hd rv
    exact PySem.W.min_tuple_data (I.ok.hd hc) hl (by simpa using ra) k1 (by omega) fun i v h' tk bs e1 e2 e3 => fin its rv i v h' tk bs (by simpa using e1) e2 e3
end
section
variable {K : Fg}
theorem rds_at {G : Hp} {ds : List D} {xs : List V} (h : RDs K G ds xs) {i : Nat} {v : V} {d : D} (h1 : xs[i]? = some v) (h2 : ds[i]? = some d) : RD K G d v := by
  obtain ⟨v', e, r⟩ := h.get h2
  rw [h1] at e
  cases e
  exact r
theorem opN_mxG {f : D → List D → D} : OpN K (rMxD f K) (mxG f) := fun G H ds vs d' Q l r e q => by
  unfold mxG at e
  split at e
  · rename_i d
    split at e
    · rename_i x xs hr
      split at e
      · rename_i ok
        cases e
        obtain ⟨v, rfl, rr⟩ := r.one
        obtain ⟨_, k3⟩ := mxOk_alike ok
        cases d with
        | list ds =>
          cases hr
          obtain ⟨a, vs, rfl, h1, h2⟩ := rr.list l
          exact ⟨a, vs, x, xs, rfl, .inl h1.sq, DpAll.le l (RDs.dp (shaped_all k3) h2), ok, fun i v d e1 e2 e3 => q _ G H (Grow.refl l) (by rw [← e3]; exact rds_at h2 e1 e2)⟩
        | tuple ds =>
          cases hr
          obtain ⟨a, vs, rfl, h1, h2, _⟩ := rr.tuple l
          exact ⟨a, vs, x, xs, rfl, .inr h1, DpAll.le l (RDs.dp (shaped_all k3) h2), ok, fun i v d e1 e2 e3 => q _ G H (Grow.refl l) (by rw [← e3]; exact rds_at h2 e1 e2)⟩
        | _ => cases hr
      · cases e
    · cases e
  · cases e
end
section
variable {K : Fg}
theorem opN_mxD : OpN K (fun vs H Q => rMaxA K vs H Q ∨ rMxD PySem.W.maxD K vs H Q) mxD := fun G H ds vs d' Q l r e q => by
  unfold mxD at e
  split at e
  · cases e
    rename_i h
    exact .inl (opN_max G H ds vs _ Q l r h q)
  · exact .inr (opN_mxG G H ds vs _ Q l r e q)
theorem opN_mnD : OpN K (fun vs H Q => rMinA K vs H Q ∨ rMxD PySem.W.minD K vs H Q) mnD := fun G H ds vs d' Q l r e q => by
  unfold mnD at e
  split at e
  · cases e
    rename_i h
    exact .inl (opN_min G H ds vs _ Q l r h q)
  · exact .inr (opN_mxG G H ds vs _ Q l r e q)
end
section
variable {X : Cx}
theorem call_mxA (hc : X.calm = true) (hu : X.A.units + 70 < cLine) : CallR X (.builtin "max") (fun vs H Q => rMaxA X.K vs H Q ∨ rMxD PySem.W.maxD X.K vs H Q) := (call_maxA hc).or (cr_mxD hu hc)
theorem call_mnA (hc : X.calm = true) (hu : X.A.units + 70 < cLine) : CallR X (.builtin "min") (fun vs H Q => rMinA X.K vs H Q ∨ rMxD PySem.W.minD X.K vs H Q) := (call_minA hc).or (cr_mnD hu hc)
end
end Tp
/-! Tq12: the sum of a tuple of whole numbers. -/
namespace Tp
open PySem PySem.Spec PyProof.Rows L2
def smD : List D → Option D
  | [.tuple ds] => (intsOf ds).map fun ns => .int ns.sum
  | ds => sumD ds
theorem sm_of {ds : List D} {d : D} (h : sumD ds = some d) : smD ds = some d := by
  unfold smD
  split
  · unfold sumD at h
    cases h
  · exact h
def rSumT (K : Fg) : List V → Hp → VK → Prop := fun vs H Q => ∃ (a : Addr) (ns : List Int), vs = [V.ref a] ∧ SqT K H a (ns.map V.int) ∧ Q (.int ns.sum) H
theorem cr_sumT {X : Cx} (hc : X.calm = true) : CallR X (.builtin "sum") (rSumT X.K) := by
  intro pins s σ H vs us Q I r h
  obtain ⟨a, ns, rfl, hs, q⟩ := h
  obtain ⟨its, rv, hl, _⟩ := I.tuple hs
  rw [Vals.ref1 r]
  have hi := rv.ints
  obtain ⟨xs, e⟩ := hi.allInts.items
  have hn : numsOf (intItems xs).toList = ns := by rw [← e]; exact hi.numsOf
  rw [nums_intItems] at hn
  rw [e] at hl
  refine PySem.W.ktm_sumG (I.ok.hd hc) hl fun h' tk t' hk => ⟨.int _, H, I.kept hk, ⟨_, rfl⟩, ?_⟩
  rw [preSum_eq, List.take_of_length_le (by simp), hn]
  exact q
theorem opN_smD {K : Fg} : OpN K (fun vs H Q => rSum K vs H Q ∨ rSumT K vs H Q) smD := fun G H ds vs d' Q l r e q => by
  unfold smD at e
  split at e
  · rename_i ds
    cases hi : intsOf ds with
    | none => rw [hi] at e; cases e
    | some ns =>
      rw [hi] at e
      cases e
      obtain ⟨v, rfl, rr⟩ := r.one
      obtain ⟨a, xs, rfl, h1, h2, _⟩ := rr.tuple l
      have ev := intsOf_vals hi h2
      subst ev
      exact .inr ⟨a, _, rfl, h1, q _ G H (Grow.refl l) (.int _)⟩
  · exact .inl (opN_sum G H ds vs _ Q l r e q)
theorem call_smA {X : Cx} (hc : X.calm = true) : CallR X (.builtin "sum") (fun vs H Q => rSum X.K vs H Q ∨ rSumT X.K vs H Q) := (cr_sum hc).or (cr_sumT hc)
end Tp
/-! Tq13: a list comprehension with two fors. -/
namespace Tp
open PySem PySem.Spec PyProof.Rows L2
def lcLoop2 (t : Tgt) (own : List Nat) (mc : M Bool) (mi1 : M Src) (t1 : Tgt) (own1 : List Nat) (mc1 : M Bool) (me : M D) : List D → Env → Option (List D × Env)
  | [], e => some ([], e)
  | d :: ds, e => (t.bind d e).bind fun e3 =>
    match mc e3 with
    | .ok true e4 =>
      match mi1 e4 with
      | .ok p e5 => (wipeE e5 own1).bind fun e6 => (lcLoop t1 own1 mc1 me p.1 e6).bind fun q => (wipeE q.2 own).bind fun e8 => (lcLoop2 t own mc mi1 t1 own1 mc1 me ds e8).bind fun r => some (q.1 ++ r.1, r.2)
      | _ => none
    | .ok false e4 => (wipeE e4 own).bind (lcLoop2 t own mc mi1 t1 own1 mc1 me ds)
    | _ => none
def lcM2 (mi : M Src) (t : Tgt) (own : List Nat) (mc : M Bool) (mi1 : M Src) (t1 : Tgt) (own1 : List Nat) (mc1 : M Bool) (me : M D) : M D := M.bind mi fun p e1 =>
  match (wipeE e1 own).bind (lcLoop2 t own mc mi1 t1 own1 mc1 me p.1) with
  | some (ds, e2) => if ds.length ≤ sizeLine then .ok (.list ds) (backE e1 e2 own) else .stuck
  | none => .stuck
theorem wipe_in {σ : L2.St} {us vs : List Nat} (h : ∀ i ∈ us, i ∈ vs) : wipe (wipe σ us) vs = wipe σ vs := by
  apply List.ext_getElem?
  intro j
  have e1 : ∀ τ : L2.St, (wipe τ vs)[j]? = if j ∈ vs then τ[j]?.map (fun _ => none) else τ[j]? := fun τ => wipe_get
  rw [e1, e1]
  by_cases hj : j ∈ vs
  · rw [if_pos hj, if_pos hj, wipe_get]
    split
    · cases σ[j]? <;> rfl
    · rfl
  · rw [if_neg hj, if_neg hj, wipe_get, if_neg fun z => hj (h j z)]
theorem SI.n {T : ExcT} {X : Cx} {tg ex : Expr} {m : M Src} (h : SI T X tg ex m) : PI X tg ex (tXn T X.K (rI' X.K) m) := ⟨fun pins s σ H Q I ⟨F, hF, q⟩ => (h F (by rw [hF]; exact takes_no)).run pins s σ H Q I q⟩
section
variable {T : ExcT} {X : Cx} {own : List Nat} {mi mi1 : M Src} {t t1 : Tgt} {own1 : List Nat} {mc mc1 : M Bool} {me : M D}
theorem lc_read2 (ht : ∀ i ∈ t.slots, i ∈ own) (ht1 : ∀ i ∈ t1.slots, i ∈ own1) (hv : ∀ i ∈ own1, i ∈ own) (hp : NoOwn mi) (hp1 : NoOwn mi1) {F : Frm} {σ : L2.St} {H : Hp} {Q : VK}
    (h : tN T X.K F (lcM2 mi t own mc mi1 t1 own1 mc1 me) σ H Q) :
    tLc2 (tX T X.K F (rI' X.K) mi) (gT X.K t) (tXn T X.K rT mc) (tXn T X.K (rI' X.K) mi1) (gT X.K t1) (tXn T X.K rT mc1) (tXn T X.K (rE X.K) me) own own1 σ H Q := by
  obtain ⟨e, G, s, q⟩ := h
  refine ⟨e, G, s, ?_⟩
  have q0 : Aft T X.K F σ (rI' X.K σ) G (mi e) (fun J H1 => ∃ p e1 G1, p.2 = none ∧ SR X.K F σ H1 e1 G1 ∧ LeG G G1 ∧ rI' X.K σ G1 p J ∧
      AftN T X.K F σ G1 (match (wipeE e1 own).bind (lcLoop2 t own mc mi1 t1 own1 mc1 me p.1) with | some (ds, e2) => if ds.length ≤ sizeLine then .ok (.list ds) (backE e1 e2 own) else .stuck | none => .stuck) Q) := by
    unfold lcM2 M.bind at q
    cases hm : mi e with
    | ok p e1 =>
      rw [hm] at q
      exact fun v H1 G1 s1 l1 r1 => ⟨p, e1, G1, hp e p e1 hm, s1, l1, r1, q.weak l1⟩
    | exc c x e1 =>
      rw [hm] at q
      exact q
    | stuck =>
      rw [hm] at q
      exact q.elim
  refine q0.mono fun J H1 ⟨p, e1, G1, hpn, s1, l1, ⟨S, wk, hS⟩, q1⟩ D nD => ?_
  cases hw : wipeE e1 own with
  | none => rw [hw] at q1; exact q1.elim
  | some e2 =>
  rw [hw] at q1
  cases hl : lcLoop2 t own mc mi1 t1 own1 mc1 me p.1 e2 with
  | none => rw [Option.bind_some, hl] at q1; exact q1.elim
  | some res =>
  obtain ⟨L, eF⟩ := res
  rw [Option.bind_some, hl] at q1
  simp only at q1
  split at q1
  case isFalse => exact q1.elim
  rename_i hz
  have nR : ∀ q ∈ F.R, q.1 ≠ D := fun q hq z => by
    have := (s1.res q hq).1
    rw [z, nD] at this; cases this
  have wz : sizeLine = sizeLine := rfl
  -- the outer invariant
  let Pv : Nat → Hp → Prop := fun i H => ∃ (acc : List PyData) (accv : List V) (e : Env) (G : Hp), SR X.K ((Frm.mk F.H0 F.G0 F.ios F.R noW).plus D (.lst accv)) (wipe σ own) H e G ∧ LeG G1 G ∧ RDs X.K G acc accv ∧
    (∃ r, lcLoop2 t own mc mi1 t1 own1 mc1 me (p.1.drop i) e = some (r, eF) ∧ acc ++ r = L) ∧ ∀ j ∈ own, e[j]? = some Slot.no
  have hSat : ∀ {F1 : Frm} {H : Hp} {e : Env} {G : Hp} {σ1 : L2.St}, SR X.K F1 (wipe σ own) H e G → LeG G1 G → S G H := fun {F1 H e G σ1} s l => by
    refine hS F1 _ H e G s l (fun j hj => by rw [hpn] at hj; cases hj) ?_
    unfold srcAt
    rw [hpn]
    trivial
  have sD := (s1.wish noW).made (o := .lst []) nD
  have sD2 := sD.wiped hw
  refine ⟨fun i m H => m = p.1.length - i ∧ i ≤ p.1.length ∧ Pv i H, ⟨p.1.length, by simp, Nat.zero_le _, [], [], e2, G1, sD2, LeG.refl, .nil, ⟨L, by simpa using hl, rfl⟩, fun j hj => wipeE_no hw hj⟩, ?_⟩
  rintro i m H ⟨rfl, hi, acc, accv, e, G, sr, lg, rd, ⟨r, hr, hL⟩, hno⟩
  by_cases hlt : i < p.1.length
  · refine .inr ⟨wk.goes i G H hlt sr.le (hSat (σ1 := σ) sr lg), Pv (i + 1), fun H' p' => ⟨p.1.length - (i + 1), by omega, rfl, hlt, p'⟩, fun x H' y => ?_⟩
    obtain ⟨d, Gx, hd, gr, rdx⟩ := wk.yields i G H x H' hlt sr.le (hSat (σ1 := σ) sr lg) y
    have hdrop : p.1.drop i = d :: p.1.drop (i + 1) := by
      obtain ⟨h1, h2⟩ := List.getElem?_eq_some_iff.mp hd
      rw [← h2]
      exact List.drop_eq_getElem_cons h1
    rw [hdrop] at hr
    unfold lcLoop2 at hr
    obtain ⟨e3, hb, hr⟩ := Option.bind_eq_some_iff.mp hr
    refine ⟨_, d, e, e3, Gx, sr.grow gr, rdx, hb, fun σ2 s2 wp => ⟨?_, ?_⟩⟩
    · rw [wp own ht, wipe_wipe]
    have wσ : wipe σ2 own = wipe σ own := by rw [wp own ht, wipe_wipe]
    refine ⟨_, rfl, e3, Gx, s2, ?_⟩
    cases hc : mc e3 with
    | stuck => rw [hc] at hr; cases hr
    | exc c x e4 => rw [hc] at hr; cases hr
    | ok b e4 =>
    rw [hc] at hr
    intro b' H3 G3 s3 l3 eb
    have eb' : b = b' := eb
    subst eb'
    cases b with
    | false =>
      simp only at hr
      rw [if_neg (by simp)]
      obtain ⟨e6, hw4, hr⟩ := Option.bind_eq_some_iff.mp hr
      have s6 := s3.wiped hw4
      rw [wσ] at s6
      exact ⟨acc, accv, e6, G3, s6, lg.trans (gr.g.trans l3), rd.le (gr.g.trans l3), ⟨r, hr, hL⟩, fun j hj => wipeE_no hw4 hj⟩
    | true =>
    simp only at hr
    rw [if_pos rfl]
    refine ⟨_, rfl, e4, G3, s3, ?_⟩
    cases hi1 : mi1 e4 with
    | stuck => rw [hi1] at hr; cases hr
    | exc c x e4 => rw [hi1] at hr; cases hr
    | ok p1 e5 =>
    rw [hi1] at hr
    simp only at hr
    obtain ⟨e6, hw1, hr⟩ := Option.bind_eq_some_iff.mp hr
    obtain ⟨⟨L1, e7⟩, hl1, hr⟩ := Option.bind_eq_some_iff.mp hr
    obtain ⟨e8, hw8, hr⟩ := Option.bind_eq_some_iff.mp hr
    obtain ⟨⟨r2, eF'⟩, hr2, hr⟩ := Option.bind_eq_some_iff.mp hr
    injection hr with hr
    injection hr with hra hrb
    subst hrb
    have hp1n := hp1 e4 p1 e5 hi1
    intro J1 H4 G4 s4 l4 ⟨S1, wk1, hS1⟩
    have lg4 : LeG G1 G4 := lg.trans (gr.g.trans (l3.trans l4))
    have hSat1 : ∀ {F1 : Frm} {H : Hp} {e : Env} {G : Hp} {σ1 : L2.St}, SR X.K F1 (wipe σ2 own1) H e G → LeG G4 G → S1 G H := fun {F1 H e G σ1} s l => by
      refine hS1 F1 _ H e G s l (fun j hj => by rw [hp1n] at hj; cases hj) ?_
      unfold srcAt
      rw [hp1n]
      trivial
    -- the inner invariant
    let Pv1 : Nat → Hp → Prop := fun j H => ∃ (acc : List PyData) (accv : List V) (e : Env) (G : Hp), SR X.K ((Frm.mk F.H0 F.G0 F.ios F.R noW).plus D (.lst accv)) (wipe σ2 own1) H e G ∧ LeG G4 G ∧ RDs X.K G acc accv ∧
      (∃ r, lcLoop t1 own1 mc1 me (p1.1.drop j) e = some (r, e7) ∧ acc ++ (r ++ r2) = L)
    refine ⟨fun j k H => k = p1.1.length - j ∧ j ≤ p1.1.length ∧ Pv1 j H, ⟨p1.1.length, by simp, Nat.zero_le _, acc, accv, e6, G4, s4.wiped hw1, LeG.refl, rd.le (gr.g.trans (l3.trans l4)), L1, by simpa using hl1, by rw [hra]; exact hL⟩, ?_⟩
    rintro j k H5 ⟨rfl, hj, acc, accv, e, G5, sr5, lg5, rd5, ⟨ra, hra1, hLa⟩⟩
    by_cases hlt1 : j < p1.1.length
    · refine .inr ⟨wk1.goes j G5 H5 hlt1 sr5.le (hSat1 (σ1 := σ) sr5 lg5), Pv1 (j + 1), fun H' p' => ⟨p1.1.length - (j + 1), by omega, rfl, hlt1, p'⟩, fun x H' y => ?_⟩
      obtain ⟨d1, Gy, hd1, gr1, rdy⟩ := wk1.yields j G5 H5 x H' hlt1 sr5.le (hSat1 (σ1 := σ) sr5 lg5) y
      have hdrop1 : p1.1.drop j = d1 :: p1.1.drop (j + 1) := by
        obtain ⟨h1, h2⟩ := List.getElem?_eq_some_iff.mp hd1
        rw [← h2]
        exact List.drop_eq_getElem_cons h1
      rw [hdrop1] at hra1
      unfold lcLoop at hra1
      cases hb1 : t1.bind d1 e with
      | none => rw [hb1] at hra1; cases hra1
      | some f3 =>
      rw [hb1] at hra1
      simp only at hra1
      refine ⟨_, d1, e, f3, Gy, sr5.grow gr1, rdy, hb1, fun σ3 s5 wp1 => ⟨?_, ?_⟩⟩
      · rw [wp1 own1 ht1, wipe_wipe]
      have wσ1 : wipe σ3 own1 = wipe σ2 own1 := by rw [wp1 own1 ht1, wipe_wipe]
      refine ⟨_, rfl, f3, Gy, s5, ?_⟩
      cases hc1 : mc1 f3 with
      | stuck => rw [hc1] at hra1; cases hra1
      | exc c x e4 => rw [hc1] at hra1; cases hra1
      | ok b f4 =>
      rw [hc1] at hra1
      intro b' H6 G6 s6 l6 eb
      have eb' : b = b' := eb
      subst eb'
      cases b with
      | false =>
        simp only at hra1
        rw [if_neg (by simp)]
        obtain ⟨f6, hw6, hra1⟩ := Option.bind_eq_some_iff.mp hra1
        have s7 := s6.wiped hw6
        rw [wσ1] at s7
        exact ⟨acc, accv, f6, G6, s7, lg5.trans (gr1.g.trans l6), rd5.le (gr1.g.trans l6), ra, hra1, hLa⟩
      | true =>
      simp only at hra1
      rw [if_pos rfl]
      refine ⟨_, rfl, f4, G6, s6, ?_⟩
      cases hve : me f4 with
      | stuck => rw [hve] at hra1; cases hra1
      | exc c x e5 => rw [hve] at hra1; cases hra1
      | ok dv f5 =>
      rw [hve] at hra1
      simp only at hra1
      intro yv H7 G7 s7 l7 rdv
      obtain ⟨f6, hw6, hra1⟩ := Option.bind_eq_some_iff.mp hra1
      obtain ⟨⟨rb, ef⟩, hrb, hra1⟩ := Option.map_eq_some_iff.mp hra1
      injection hra1 with hrc hrd
      subst hrd
      subst hrc
      have hD := (s7.res (D, .lst accv) List.mem_cons_self).1
      refine ⟨accv, hD, ?_, ?_⟩
      · have : (acc ++ (dv :: rb ++ r2)).length = L.length := by rw [hLa]
        rw [← rd5.length]
        simp only [List.length_append, List.length_cons] at this
        omega
      have s8 := SR.remade (o' := .lst (accv ++ [yv])) s7 nR
      have s9 := s8.wiped hw6
      rw [wσ1] at s9
      exact ⟨acc ++ [dv], accv ++ [yv], f6, G7, s9, lg5.trans (gr1.g.trans (l6.trans l7)), (rd5.le (gr1.g.trans (l6.trans l7))).app (.cons rdv .nil), rb, hrb, by rw [← hLa]; simp⟩
    · have ej : j = p1.1.length := by omega
      subst ej
      refine .inl ⟨wk1.stops G5 H5 sr5.le (hSat1 (σ1 := σ) sr5 lg5), ?_⟩
      rw [List.drop_length] at hra1
      unfold lcLoop at hra1
      cases hra1
      have s9 := sr5.wiped hw8
      rw [wipe_in hv, wσ] at s9
      exact ⟨acc, accv, e8, G5, s9, lg4.trans lg5, rd5, ⟨r2, hr2, by simpa using hLa⟩, fun j hj => wipeE_no hw8 hj⟩
  · have ei : i = p.1.length := by omega
    subst ei
    refine .inl ⟨wk.stops G H sr.le (hSat (σ1 := σ) sr lg), ?_⟩
    rw [List.drop_length] at hr
    unfold lcLoop2 at hr
    cases hr
    rw [List.append_nil] at hL
    subst hL
    have sb := SR.back (e1 := e1) s1.vals lg sr hno
    exact q1 D (.lst accv) H G nR (SR.unwish (W := noW) (F := F.plus D (.lst accv)) sb) lg ⟨(sr.res (D, .lst accv) List.mem_cons_self).2.1, accv, (sr.res (D, .lst accv) List.mem_cons_self).1, rd⟩
theorem sn_lc2 {elt tg iter tg1 iter1 : Expr} {ifs ifs1 : List Expr} {scope : Scope} {ow : List (Str × Nat)} {pos : Pos} (hc : X.calm = true) (hN : X.N.Nodup) (hi : SI T X tg iter mi) (hb : BlkS T X scope elt tg ifs t mc me) (hb1 : BlkS T X scope elt tg1 ifs1 t1 mc1 me)
    (hi1 : ∀ (s : Shared) (H : Hp) (C : Addr) (cl : List (Str × Addr)) (fp : List Addr), SI T (X.blk s H scope (compEnvC scope cl C X.env) fp) tg1 iter1 mi1) (ok : BlkOk X.N X.env.scope scope ow)
    (ht : ∀ i ∈ t.slots, i ∈ ow.map (·.2)) (ht1 : ∀ i ∈ t1.slots, i ∈ own1) (hv : ∀ i ∈ own1, i ∈ ow.map (·.2)) (hp : NoOwn mi) (hp1 : NoOwn mi1) (hs : notSet iter = true) (hs1 : notSet iter1 = true) :
    SN T X (.ListComp elt [⟨tg, iter, ifs, 0⟩, ⟨tg1, iter1, ifs1, 0⟩] scope pos) (lcM2 mi t (ow.map (·.2)) mc mi1 t1 own1 mc1 me) := fun F tk =>
  PE.weak (pe_lc2 (vs1 := own1) (g := gT X.K t) (tt := tXn T X.K rT mc) (wi1 := tXn T X.K (rI' X.K) mi1) (g1 := gT X.K t1) (tt1 := tXn T X.K rT mc1) (te := tXn T X.K (rE X.K) me) hc hN (hi F tk) ok hv (fun s H C cl fp => hb.g s H C cl fp) (fun s H C cl fp => (hb.c s H C cl fp).n)
    (fun s H C cl fp => (hi1 s H C cl fp).n) (fun s H C cl fp => hb1.g s H C cl fp) (fun s H C cl fp => (hb1.c s H C cl fp).n) (fun s H C cl fp => (hb.e s H C cl fp).n) (notSet_iter hs) (fun env => notSet_iter hs1)) fun σ H Q q => lc_read2 ht ht1 hv hp hp1 q
end
def lrg1D (d : D) : Option D := lrgD (.int 0) d
def rLrg1 : V → Hp → VK → Prop := fun x H Q => ∃ j, x = V.int j ∧ RgOk 0 j ∧ ∀ q, H q = none → Q (.ref q) (upd H q (.lst (rgV 0 j)))
theorem op1_lrg1 {K : Fg} : Op1 K rLrg1 lrg1D := fun G H d v d' Q l r e q => by
  cases d <;> simp only [lrg1D, lrgD] at e <;> first | (cases e; done) | skip
  rename_i j
  split at e
  · rename_i h
    cases e
    cases r.int
    refine ⟨j, rfl, h, fun p np => ?_⟩
    have w := Grow.one l np (.lst (rgV 0 j))
    exact q _ _ _ w (.lst (.inl (.inl upd_same)) rds_rg)
  · cases e
theorem se_lrg1 {T : ExcT} {X : Cx} {a : Expr} {ma : M Opd} {p q pos pos' : Pos} (hg : Gl X "list") (hm : X.mg "list" = none) (hg2 : Gl X "range") (hm2 : X.mg "range" = none) (calm : X.calm = true) (na : notStar a = true) (ha : SO T X a ma) :
    SE T X (.Call (.Name "list" p) [.Call (.Name "range" q) [a] [] pos] [] pos') (M.bind ma fun o => doOp1 lrg1D o) := fun F tk =>
  PE.weak (pe_listRg calm hg hm (prg_1 hg2 hm2 (ha F tk) (by rw [star_cons na] <;> rfl)) (star_cons rfl)) fun σ H Q ⟨e, G, s, q⟩ => by
  refine ⟨e, G, s, (Aft.bind q).mono fun v1 H1 ⟨o1, e1, G1, s1, l1, r1, q1⟩ => ?_⟩
  exact aft_op1 op1_lrg1 s1 r1 q1
theorem ss_lc2 {i : Nat} {x : Str} {px pos : Pos} {own : Bool} {elt iter tgc iter1 tg1 : Expr} {ifs ifs1 : List Expr} {scope : Scope} {cown : List (Str × Nat)} {cpos : Pos} {mi mi1 : M Src} {ct t1 : Tgt} {own1 : List Nat} {mc mc1 : M Bool} {me : M D} {T : ExcT} {X : Cx} (hc : X.calm = true) (hN : X.N.Nodup) (hi : X.N[i]? = some x) (hx : X.env.scope.names.lookup x = some .local)
    (hsw : swapsWith (.ListComp elt [⟨tgc, iter, ifs, 0⟩, ⟨tg1, iter1, ifs1, 0⟩] scope cpos) (some (.Name x px)) pos.line X.env = pure true)
    (hit : SI T X tgc iter mi) (hb : BlkS T X scope elt tgc ifs ct mc me) (hb1 : BlkS T X scope elt tg1 ifs1 t1 mc1 me)
    (hi1 : ∀ (s : Shared) (H : Hp) (C : Addr) (cl : List (Str × Addr)) (fp : List Addr), SI T (X.blk s H scope (compEnvC scope cl C X.env) fp) tg1 iter1 mi1) (ok : BlkOk X.N X.env.scope scope cown)
    (ht : ∀ i ∈ ct.slots, i ∈ cown.map (·.2)) (ht1 : ∀ i ∈ t1.slots, i ∈ own1) (hv : ∀ i ∈ own1, i ∈ cown.map (·.2)) (hp : NoOwn mi) (hp1 : NoOwn mi1) (hs : notSet iter = true) (hs1 : notSet iter1 = true) :
    SS T X own (.Assign [.Name x px] (.ListComp elt [⟨tgc, iter, ifs, 0⟩, ⟨tg1, iter1, ifs1, 0⟩] scope cpos) pos) (onV (lcM2 mi ct (cown.map (·.2)) mc mi1 t1 own1 mc1 me) fun d e => liftE (setV e i d)) := fun F tk =>
  PS.weak (ps_setLc2 (vs1 := own1) (g := gT X.K ct) (tt := tXn T X.K rT mc) (wi1 := tXn T X.K (rI' X.K) mi1) (g1 := gT X.K t1) (tt1 := tXn T X.K rT mc1) (te := tXn T X.K (rE X.K) me) hc hN hi hx hsw (hit F tk) ok hv (fun s H C cl fp => hb.g s H C cl fp) (fun s H C cl fp => (hb.c s H C cl fp).n)
    (fun s H C cl fp => (hi1 s H C cl fp).n) (fun s H C cl fp => hb1.g s H C cl fp) (fun s H C cl fp => (hb1.c s H C cl fp).n) (fun s H C cl fp => (hb.e s H C cl fp).n) (notSet_iter hs) (fun env => notSet_iter hs1)) fun D σ H ⟨e, G, s, q⟩ => by
  refine lc_read2 ht ht1 hv hp hp1 ⟨e, G, s, (AftS.onN (σ := σ) q).mono fun v H1 ⟨d, e1, G1, p, o, ev, n, s1, l1, r1, q1⟩ => ?_⟩
  subst ev
  obtain ⟨s2, l2⟩ := s1.froze n
  have rd := r1.rd (s1.res (p, o) List.mem_cons_self).1 l2
  cases hb : setV e1 i d with
  | none => rw [hb] at q1; exact q1.elim
  | some e2 =>
    rw [hb] at q1
    exact q1 _ H1 _ (s2.setv rd hb) l2
theorem ss_lc2O {i : Nat} {x : Str} {px pos : Pos} {own : Bool} {elt iter tgc iter1 tg1 : Expr} {ifs ifs1 : List Expr} {scope : Scope} {cown : List (Str × Nat)} {cpos : Pos} {mi mi1 : M Src} {ct t1 : Tgt} {own1 : List Nat} {mc mc1 : M Bool} {me : M D} {T : ExcT} {X : Cx} (hc : X.calm = true) (hN : X.N.Nodup) (hi : X.N[i]? = some x) (hx : X.env.scope.names.lookup x = some .local)
    (hsw : swapsWith (.ListComp elt [⟨tgc, iter, ifs, 0⟩, ⟨tg1, iter1, ifs1, 0⟩] scope cpos) (some (.Name x px)) pos.line X.env = pure true)
    (hit : SI T X tgc iter mi) (hb : BlkS T X scope elt tgc ifs ct mc me) (hb1 : BlkS T X scope elt tg1 ifs1 t1 mc1 me)
    (hi1 : ∀ (s : Shared) (H : Hp) (C : Addr) (cl : List (Str × Addr)) (fp : List Addr), SI T (X.blk s H scope (compEnvC scope cl C X.env) fp) tg1 iter1 mi1) (ok : BlkOk X.N X.env.scope scope cown)
    (ht : ∀ i ∈ ct.slots, i ∈ cown.map (·.2)) (ht1 : ∀ i ∈ t1.slots, i ∈ own1) (hv : ∀ i ∈ own1, i ∈ cown.map (·.2)) (hp : NoOwn mi) (hp1 : NoOwn mi1) (hs : notSet iter = true) (hs1 : notSet iter1 = true) :
    SS T X own (.Assign [.Name x px] (.ListComp elt [⟨tgc, iter, ifs, 0⟩, ⟨tg1, iter1, ifs1, 0⟩] scope cpos) pos) (onV (lcM2 mi ct (cown.map (·.2)) mc mi1 t1 own1 mc1 me) fun d e => liftE (setO e i d)) := fun F tk =>
  PS.weak (ps_setLc2 (vs1 := own1) (g := gT X.K ct) (tt := tXn T X.K rT mc) (wi1 := tXn T X.K (rI' X.K) mi1) (g1 := gT X.K t1) (tt1 := tXn T X.K rT mc1) (te := tXn T X.K (rE X.K) me) hc hN hi hx hsw (hit F tk) ok hv (fun s H C cl fp => hb.g s H C cl fp) (fun s H C cl fp => (hb.c s H C cl fp).n)
    (fun s H C cl fp => (hi1 s H C cl fp).n) (fun s H C cl fp => hb1.g s H C cl fp) (fun s H C cl fp => (hb1.c s H C cl fp).n) (fun s H C cl fp => (hb.e s H C cl fp).n) (notSet_iter hs) (fun env => notSet_iter hs1)) fun D σ H ⟨e, G, s, q⟩ => by
  refine lc_read2 ht ht1 hv hp hp1 ⟨e, G, s, (AftS.onN (σ := σ) q).mono fun v H1 ⟨d, e1, G1, p, o, ev, n, s1, l1, r1, q1⟩ => ?_⟩
  subst ev
  cases hb : setO e1 i d with
  | none => rw [hb] at q1; exact q1.elim
  | some e2 =>
    rw [hb] at q1
    exact q1 _ H1 _ (SR.seto n s1 r1 hb) LeG.refl
end Tp
/-! Tp13: the position-free form of expressions: what it means, whether a written expression has it, and that it then does what it means. -/
namespace Tp
open PySem PySem.Spec PyProof.Rows L2
inductive BOp where
  | add | sub | mul | div | mod | pow
  deriving DecidableEq
inductive COp where
  | lt | le | gt | ge | eq | ne | is_ | isnot | in_ | notin
  deriving DecidableEq
inductive Bi where
  | len | abs | int | str | max | min | sum | all | tuple | list | srd
  deriving DecidableEq
inductive IE where
  | lit (d : D)
  | var (i : Nat)
  | frz (i : Nat)
  | glob (x : Str)
  | nil
  | cons (a b : IE)
  | tup (es : IE)
  | lst (es : IE)
  | bin (o : BOp) (a b : IE)
  | neg (a : IE)
  | cmp (o : COp) (a b : IE)
  | chain (o1 o2 : COp) (a b c : IE)
  | and_ (es : IE)
  | or_ (es : IE)
  | not_ (a : IE)
  | ifx (c a b : IE)
  | ix (a b : IE)
  | slc (a lo hi : IE)
  | rev (a : IE)
  | call (g : Nat) (es : IE)
  | look (g : Nat) (es : IE)
  | bi (b : Bi) (es : IE)
  | isi1 (t : Ty5) (a : IE)
  | isi2 (t u : Ty5) (a : IE)
  | lc (t : Tgt) (own : List Nat) (elt iter cond : IE)
  | rng (es : IE)
  | zip2 (es : IE)
  | srt (a : IE)
  | cat (a b : IE)
  | lrg (a b : IE)
  | lzp (a b : IE)
  | scs (t : Tgt) (own : List Nat) (elt iter : IE)
  | lrg1 (a : IE)
  | lc2 (t : Tgt) (own : List Nat) (elt iter cond : IE) (t1 : Tgt) (own1 : List Nat) (iter1 cond1 : IE)
def BOp.f : BOp → D → D → Option D
  | .add => addD | .sub => subD | .mul => mulI | .div => divD | .mod => modD | .pow => powD
def BOp.op : BOp → Operator
  | .add => .Add | .sub => .Sub | .mul => .Mult | .div => .FloorDiv | .mod => .Mod | .pow => .Pow
def COp.f : COp → D → D → Option D
  | .lt => cmpI fun i j => decide (i < j) | .le => cmpI fun i j => decide (i ≤ j) | .gt => cmpI fun i j => decide (j < i) | .ge => cmpI fun i j => decide (j ≤ i)
  | .eq => eqD | .ne => neD | .is_ => isND | .isnot => notND | .in_ => inD | .notin => notInD
def COp.op : COp → CmpOp
  | .lt => .Lt | .le => .LtE | .gt => .Gt | .ge => .GtE | .eq => .Eq | .ne => .NotEq | .is_ => .Is | .isnot => .IsNot | .in_ => .In | .notin => .NotIn
def Bi.f : Bi → List D → Option D
  | .len => lenD | .abs => absD | .int => intD | .str => strD | .max => mxD | .min => mnD | .sum => smD | .all => allD | .tuple => tupleD | .list => listD | .srd => srdD
def Bi.ns : Bi → Str
  | .len => "len" | .abs => "abs" | .int => "int" | .str => "str" | .max => "max" | .min => "min" | .sum => "sum" | .all => "all" | .tuple => "tuple" | .list => "list" | .srd => "sorted"
/-- what is known of the defs and constants of the text -/
structure FnI where
  name : Str
  io : Option Nat
  own : Bool
structure PgI where
  fn : Nat → Option FnI
  gl : List (Str × D)
structure Den where
  e : M D
  o : M Opd
  a : M (List Opd)
  s : M Src
  ands : M D
  ors : M D
def Den.of (m : M D) : Den := ⟨m, M.bind m fun d => M.pure (.inl d), M.stuck, M.bind (M.bind m fun d => M.pure (.inl d)) asSrc, m, m⟩
def Den.b (d : Den) : M Bool := M.bind d.e asB
def isNil : IE → Bool
  | .nil => true
  | _ => false
def noOwn (m : M Src) : M Src := M.bind m fun p => if p.2 = none then M.pure p else M.stuck
/-- an expression that leaves the slots as they are -/
def pureIE (P : PgI) : IE → Bool
  | .lit _ => true
  | .var _ => true
  | .frz _ => false
  | .glob _ => true
  | .nil => true
  | .cons a b => pureIE P a && pureIE P b
  | .tup es => pureIE P es
  | .lst es => pureIE P es
  | .bin _ a b => pureIE P a && pureIE P b
  | .neg a => pureIE P a
  | .cmp _ a b => pureIE P a && pureIE P b
  | .chain _ _ a b c => pureIE P a && pureIE P b && pureIE P c
  | .and_ es => pureIE P es
  | .or_ es => pureIE P es
  | .not_ a => pureIE P a
  | .ifx c a b => pureIE P c && pureIE P a && pureIE P b
  | .ix a b => pureIE P a && pureIE P b
  | .slc a l h => pureIE P a && pureIE P l && pureIE P h
  | .rev a => pureIE P a
  | .call g es => (match P.fn g with | some i => i.io.isNone | none => false) && pureIE P es
  | .look _ es => pureIE P es
  | .bi _ es => pureIE P es
  | .isi1 _ a => pureIE P a
  | .isi2 _ _ a => pureIE P a
  | .lc .. => false
  | .rng es => pureIE P es
  | .zip2 es => pureIE P es
  | .srt a => pureIE P a
  | .cat a b => pureIE P a && pureIE P b
  | .lrg a b => pureIE P a && pureIE P b
  | .lzp a b => pureIE P a && pureIE P b
  | .scs .. => false
  | .lrg1 a => pureIE P a
  | .lc2 .. => false
def arity : IE → Nat
  | .cons _ b => arity b + 1
  | _ => 0
def rngA (n : Nat) (os : List Opd) : M Src := if os.length = n then asRng os else M.stuck
def slcB (d : Den) (n : Bool) : M (Option Int) := if n then M.pure none else M.bind d.e asI
/-- what an expression means; cf: what the defs give -/
def den (P : PgI) (cf : Nat → List D → FRes) : IE → Den
  | .lit d => .of (M.pure d)
  | .var i => { e := mVar i, o := mVarO i, a := M.stuck, s := M.bind (mVarO i) asSrc, ands := mVar i, ors := mVar i }
  | .frz i => .of (mFrz i)
  | .glob x => .of (M.of (P.gl.lookup x))
  | .nil => { e := M.stuck, o := M.stuck, a := M.pure [], s := M.stuck, ands := M.stuck, ors := M.stuck }
  | .cons a b =>
    let x := den P cf a
    let y := den P cf b
    { e := M.stuck, o := M.stuck, a := M.bind x.o fun o => M.bind y.a fun os => M.pure (o :: os), s := M.stuck,
      ands := if isNil b then x.e else M.bind x.b fun k => if k then y.ands else M.pure (.bool false),
      ors := if isNil b then x.e else M.bind x.b fun k => if k then M.pure (.bool true) else y.ors }
  | .tup es => .of (M.bind (den P cf es).a mkTup)
  | .lst es => .of (M.bind (den P cf es).a mkLst)
  | .bin o a b => .of (M.bind (den P cf a).o fun o1 => M.bind (den P cf b).o fun o2 => doOp2 o.f o1 o2)
  | .neg a => .of (M.bind (den P cf a).o fun o => doOp1 negD o)
  | .cmp o a b => .of (M.bind (den P cf a).o fun o1 => M.bind (den P cf b).o fun o2 => doOp2 o.f o1 o2)
  | .chain o o' a b c => .of (M.bind (den P cf a).o fun o1 => M.bind (den P cf b).o fun o2 => M.bind (M.bind (doOp2 o.f o1 o2) asB) fun k => if k then M.bind (den P cf c).o fun o3 => doOp2 o'.f o2 o3 else M.pure (.bool false))
  | .and_ es => .of (den P cf es).ands
  | .or_ es => .of (den P cf es).ors
  | .not_ a => .of (M.bind (den P cf a).b fun k => M.pure (.bool !k))
  | .ifx c a b => .of (M.bind (den P cf c).b fun k => if k then (den P cf a).e else (den P cf b).e)
  | .ix a b => .of (M.bind (den P cf a).o fun o1 => M.bind (den P cf b).o fun o2 => doOp2 ixD o1 o2)
  | .slc a l h => .of (M.bind (den P cf a).o fun o => M.bind (slcB (den P cf l) (isNil l)) fun lo => M.bind (slcB (den P cf h) (isNil h)) fun hi => doSlc o lo hi)
  | .rev a => .of (M.bind (den P cf a).o fun o => doOp1 revD o)
  | .call g es => .of (match P.fn g with | some i => M.bind (den P cf es).a (callM i.io (cf g)) | none => M.stuck)
  | .look g es => .of (M.bind (den P cf es).a (callS (cf g)))
  | .bi b es => .of (M.bind (den P cf es).a (doOpN b.f))
  | .isi1 t a => .of (M.bind (den P cf a).o (Tp.isi1 t))
  | .isi2 t u a => .of (M.bind (den P cf a).o (Tp.isi2 t u))
  | .lc t own elt iter cond =>
    let mi := (den P cf iter).s
    let mc := if isNil cond then M.pure true else (den P cf cond).b
    .of (lcM (if pureIE P elt && pureIE P cond then mi else noOwn mi) t own mc (den P cf elt).e)
  | .rng es => { e := M.stuck, o := M.stuck, a := M.stuck, s := M.bind (den P cf es).a (rngA (arity es)), ands := M.stuck, ors := M.stuck }
  | .zip2 es => { e := M.stuck, o := M.stuck, a := M.stuck, s := M.bind (den P cf es).a asZip, ands := M.stuck, ors := M.stuck }
  | .srt a => .of (M.bind (den P cf a).o fun o => doOp1 srtD o)
  | .cat a b => .of (M.bind (den P cf a).o fun o1 => M.bind (den P cf b).o fun o2 => doOp2 catD o1 o2)
  | .lrg a b => .of (M.bind (den P cf a).o fun o1 => M.bind (den P cf b).o fun o2 => doOp2 lrgD o1 o2)
  | .lzp a b => .of (M.bind (den P cf a).o fun o1 => M.bind (den P cf b).o fun o2 => doOp2 lzpD o1 o2)
  | .scs t own elt iter => .of (csM (if pureIE P elt then (den P cf iter).s else noOwn (den P cf iter).s) t own (den P cf elt).e)
  | .lrg1 a => .of (M.bind (den P cf a).o fun o => doOp1 lrg1D o)
  | .lc2 t own elt iter cond t1 own1 iter1 cond1 => .of (lcM2 (noOwn (den P cf iter).s) t own (if isNil cond then M.pure true else (den P cf cond).b) (noOwn (den P cf iter1).s) t1 own1 (if isNil cond1 then M.pure true else (den P cf cond1).b) (den P cf elt).e)
/-! ### does a written expression have the form? -/
structure MC where
  N : List Str
  sc : Scope
  fnAll : Bool
def isVar (c : MC) (i : Nat) (x : Str) : Bool := decide (c.N[i]? = some x) && (match c.sc.names.lookup x with | some .local => true | some .cell => true | some .free => true | _ => false) && !(x == ("__debug__" : Str)) && !(x == ("__classdict__" : Str))
def isTgt (c : MC) (i : Nat) (x : Str) : Bool := decide (c.N[i]? = some x) && (match c.sc.names.lookup x with | some .local => true | some .cell => c.fnAll | _ => false)
def isGl (c : MC) (x : Str) : Bool := (match c.sc.names.lookup x with | some .globalImplicit => true | _ => false) && !(x == ("__debug__" : Str))
def isTgts (c : MC) : List Nat → List Expr → Bool
  | [], [] => true
  | i :: is, .Name x _ :: es => isTgt c i x && isTgts c is es
  | _, _ => false
def mTgt (c : MC) (t : Tgt) (e : Expr) : Bool := match t, e with
  | .one i, .Name x _ => isTgt c i x
  | .many is, .Tuple es _ _ => isTgts c is es
  | _, _ => false
structure Mt where
  e : MC → Expr → Bool
  a : MC → List Expr → Bool
  s : MC → Expr → Bool
  /-- may it stand as a test? -/
  tb : Bool
def Mt.of (f : MC → Expr → Bool) (tb : Bool := true) : Mt := ⟨f, fun _ _ => false, f, tb⟩
def litM : D → Expr → Bool
  | .none, .Constant .none _ _ => true
  | .bool b, .Constant (.bool b') _ _ => b == b'
  | .int i, .Constant (.int j) _ _ => decide (i = j)
  | .str x, .Constant (.str y) _ _ => decide (x = y)
  | _, _ => false
def allTb (P : PgI) (tb : IE → Bool) : IE → Bool
  | .cons a b => tb a && allTb P tb b
  | _ => true
def blkOwn (c : MC) (own : List Nat) : List (Str × Nat) := own.map fun i => (c.N.getD i "", i)
def inner (c : MC) (scope : Scope) : MC := { N := c.N, sc := relS scope c.sc, fnAll := false }
def isTupX : Expr → Bool
  | .Tuple .. => true
  | _ => false
/-- zip gives its pairs to a tuple of targets -/
def zipOk : IE → Expr → Bool
  | .zip2 _, tg => isTupX tg
  | _, _ => true
def mt (P : PgI) : IE → Mt
  | .lit d => .of fun _ e => litM d e
  | .var i => .of fun c e => match e with | .Name x _ => isVar c i x | _ => false
  | .frz i => .of fun c e => match e with | .Name x _ => isVar c i x | _ => false
  | .glob g => .of fun c e => match e with | .Name x _ => decide (x = g) && isGl c x | _ => false
  | .nil => { e := fun _ _ => false, a := fun _ es => es.isEmpty, s := fun _ _ => false, tb := true }
  | .cons a b => { e := fun _ _ => false, a := fun c es => match es with | e :: es => (mt P a).e c e && notStar e && (mt P b).a c es | _ => false, s := fun _ _ => false, tb := (mt P a).tb && (mt P b).tb }
  | .tup es => .of fun c e => match e with | .Tuple xs _ _ => (mt P es).a c xs | _ => false
  | .lst es => .of fun c e => match e with | .List xs _ => (mt P es).a c xs | _ => false
  | .bin o a b => .of fun c e => match e with | .BinOp x op y _ => decide (op = o.op) && (mt P a).e c x && (mt P b).e c y | _ => false
  | .neg a => .of fun c e => match e with | .UnaryOp .USub x _ => (mt P a).e c x | _ => false
  | .cmp o a b => .of fun c e => match e with | .Compare x [op] [y] _ => decide (op = o.op) && (mt P a).e c x && (mt P b).e c y && !behindInMarks op y | _ => false
  | .chain o o' a b d => .of fun c e => match e with | .Compare x [op, op'] [y, z] _ => decide (op = o.op) && decide (op' = o'.op) && (mt P a).e c x && (mt P b).e c y && (mt P d).e c z && !lastMarks [op, op'] [y, z] | _ => false
  | .and_ es => .of (fun c e => match e with | .BoolOp .And xs _ => (mt P es).a c xs && !xs.isEmpty | _ => false) (mt P es).tb
  | .or_ es => .of (fun c e => match e with | .BoolOp .Or xs _ => (mt P es).a c xs && !xs.isEmpty | _ => false) (mt P es).tb
  | .not_ a => .of (fun c e => match e with | .UnaryOp .Not x _ => (mt P a).e c x | _ => false) (mt P a).tb
  | .ifx t a b => .of (fun c e => match e with | .IfExp z x y _ => (mt P t).e c z && (mt P t).tb && (mt P a).e c x && (mt P b).e c y | _ => false) false
  | .ix a b => .of fun c e => match e with | .Subscript x y _ => (mt P a).e c x && (mt P b).e c y && notSlice y | _ => false
  | .slc a l h => .of fun c e => match e with
    | .Subscript x (.Slice lo hi none _) _ => (mt P a).e c x && (match lo with | none => isNil l | some y => !isNil l && (mt P l).e c y) && (match hi with | none => isNil h | some y => !isNil h && (mt P h).e c y)
    | _ => false
  | .rev a => .of fun c e => match e with | .Subscript x (.Slice none none (some (.UnaryOp .USub (.Constant (.int 1) _ _) _)) _) _ => (mt P a).e c x | _ => false
  | .call g es => .of fun c e => match e with | .Call (.Name x _) xs [] _ => (match P.fn g with | some i => decide (x = i.name) | none => false) && isGl c x && (mt P es).a c xs | _ => false
  | .look g es => .of fun c e => match e with | .Call (.Name x _) xs [] _ => (match P.fn g with | some i => decide (x = i.name) && decide (i.io = none) && !i.own | none => false) && isGl c x && (mt P es).a c xs | _ => false
  | .bi b es => .of fun c e => match e with | .Call (.Name x _) xs [] _ => decide (x = b.ns) && isGl c x && (mt P es).a c xs && !xs.isEmpty | _ => false
  | .isi1 t a => .of fun c e => match e with | .Call (.Name x _) [y, .Name z _] [] _ => decide (x = "isinstance") && isGl c x && decide (z = t.ns) && isGl c z && (mt P a).e c y && notStar y | _ => false
  | .isi2 t u a => .of fun c e => match e with | .Call (.Name x _) [y, .Tuple [.Name z _, .Name w _] _ _] [] _ => decide (x = "isinstance") && isGl c x && decide (z = t.ns) && isGl c z && decide (w = u.ns) && isGl c w && (mt P a).e c y && notStar y | _ => false
  | .lc t own elt iter cond => .of fun c e => match e with
    | .ListComp x [⟨tg, it, ifs, asy⟩] scope _ => decide (asy = 0) && (mt P iter).s c it && notSet it && zipOk iter tg && mTgt (inner c scope) t tg && (t.slots.all fun i => decide (i ∈ own)) && blkC c.N c.sc scope (blkOwn c own) && (mt P elt).e (inner c scope) x &&
        (match ifs with | [] => isNil cond | [y] => !isNil cond && (mt P cond).e (inner c scope) y && (mt P cond).tb | _ => false)
    | _ => false
  | .rng es => { e := fun _ _ => false, a := fun _ _ => false, s := fun c e => match e with | .Call (.Name x _) xs [] _ => decide (x = "range") && isGl c x && (mt P es).a c xs && (match xs with | [_] => decide (arity es = 1) | [_, _] => decide (arity es = 2) | _ => false) | _ => false, tb := true }
  | .zip2 es => { e := fun _ _ => false, a := fun _ _ => false, s := fun c e => match e with | .Call (.Name x _) xs [] _ => decide (x = "zip") && isGl c x && (mt P es).a c xs && (match xs with | [_, _] => true | _ => false) | _ => false, tb := true }
  | .lrg a b => .of fun c e => match e with | .Call (.Name x _) [.Call (.Name y _) [a1, b1] [] _] [] _ => decide (x = "list") && isGl c x && decide (y = "range") && isGl c y && notStar a1 && notStar b1 && (mt P a).e c a1 && (mt P b).e c b1 | _ => false
  | .lzp a b => .of fun c e => match e with | .Call (.Name x _) [.Call (.Name y _) [a1, b1] [] _] [] _ => decide (x = "list") && isGl c x && decide (y = "zip") && isGl c y && notStar a1 && notStar b1 && (mt P a).e c a1 && (mt P b).e c b1 | _ => false
  | .scs t own elt iter => .of fun c e => match e with | .Call (.Name x _) [.SetComp y [⟨tg, it, ifs, asy⟩] scope _] [] _ => decide (x = "sorted") && isGl c x && decide (asy = 0) && ifs.isEmpty && (mt P iter).s c it && notSet it && zipOk iter tg && mTgt (inner c scope) t tg && (t.slots.all fun i => decide (i ∈ own)) && blkC c.N c.sc scope (blkOwn c own) && (mt P elt).e (inner c scope) y | _ => false
  | .lrg1 a => .of fun c e => match e with | .Call (.Name x _) [.Call (.Name y _) [a1] [] _] [] _ => decide (x = "list") && isGl c x && decide (y = "range") && isGl c y && notStar a1 && (mt P a).e c a1 | _ => false
  | .lc2 t own elt iter cond t1 own1 iter1 cond1 => .of fun c e => match e with
    | .ListComp x [⟨tg, it, ifs, asy⟩, ⟨tg1, it1, ifs1, asy1⟩] scope _ => decide (asy = 0) && decide (asy1 = 0) && (mt P iter).s c it && notSet it && zipOk iter tg && (mt P iter1).s (inner c scope) it1 && notSet it1 && zipOk iter1 tg1 && mTgt (inner c scope) t tg && mTgt (inner c scope) t1 tg1 &&
        (t.slots.all fun i => decide (i ∈ own)) && (t1.slots.all fun i => decide (i ∈ own1)) && (own1.all fun i => decide (i ∈ own)) && blkC c.N c.sc scope (blkOwn c own) && (mt P elt).e (inner c scope) x &&
        (match ifs with | [] => isNil cond | [y] => !isNil cond && (mt P cond).e (inner c scope) y && (mt P cond).tb | _ => false) && (match ifs1 with | [] => isNil cond1 | [y] => !isNil cond1 && (mt P cond1).e (inner c scope) y && (mt P cond1).tb | _ => false)
    | _ => false
  | .cat a b => .of fun c e => match e with | .BinOp x .Add y _ => (mt P a).e c x && (mt P b).e c y | _ => false
  | .srt a => .of fun c e => match e with | .Call (.Name x _) [.Call (.Name y _) [z] [] _] [] _ => decide (x = "sorted") && isGl c x && decide (y = "set") && isGl c y && notStar z && (mt P a).e c z | _ => false
end Tp
/-! Tp14: an expression that has the form does what the form means. -/
namespace Tp
open PySem PySem.Spec PyProof.Rows L2
def bltNames : List Str := ["len", "abs", "int", "str", "max", "min", "sum", "all", "tuple", "list", "isinstance", "range", "bool", "zip", "sorted", "set"]
structure Fits (T : ExcT) (P : PgI) (cf : Nat → List D → FRes) (c : MC) (X : Cx) : Prop where
  N : X.N = c.N
  sc : X.env.scope = c.sc
  nd : X.N.Nodup
  calm : X.calm = true
  un : X.A.units + 100 < cLine
  fn : c.fnAll = true → ∀ x, X.fn x = true
  defs : ∀ g i, P.fn g = some i → Def T X i.name i.io i.own (cf g)
  gls : ∀ x d, P.gl.lookup x = some d → ∃ u v, X.mg x = some u ∧ RelV v u ∧ ∀ G, RD X.K G d v
  blt : ∀ x ∈ bltNames, X.mg x = none
section
variable {T : ExcT} {P : PgI} {cf : Nat → List D → FRes} {c : MC} {X : Cx}
theorem Fits.var (f : Fits T P cf c X) {i : Nat} {x : Str} (h : isVar c i x = true) : X.N[i]? = some x ∧ Vis X.env.scope x ∧ (x == ("__debug__" : Str)) = false ∧ (x == ("__classdict__" : Str)) = false := by
  unfold isVar at h
  simp only [Bool.and_eq_true, Bool.not_eq_true', decide_eq_true_eq] at h
  obtain ⟨⟨⟨h1, h2⟩, h3⟩, h4⟩ := h
  refine ⟨by rw [f.N]; exact h1, ?_, h3, h4⟩
  unfold Vis
  rw [f.sc]
  split at h2
  · exact .inl (by assumption)
  · exact .inr (.inl (by assumption))
  · exact .inr (.inr (by assumption))
  · cases h2
theorem Fits.gl (f : Fits T P cf c X) {x : Str} (h : isGl c x = true) : Gl X x ∧ (x == ("__debug__" : Str)) = false := by
  unfold isGl at h
  rw [Bool.and_eq_true, Bool.not_eq_true'] at h
  refine ⟨?_, h.2⟩
  have h1 := h.1
  show X.env.scope.names.lookup x = _
  rw [f.sc]
  split at h1
  · assumption
  · cases h1
theorem Fits.tgt (f : Fits T P cf c X) {i : Nat} {x : Str} (h : isTgt c i x = true) : X.N[i]? = some x ∧ Loc X.env.scope x ∧ (X.fn x = true ∨ X.env.scope.names.lookup x = some .local) := by
  unfold isTgt at h
  simp only [Bool.and_eq_true, decide_eq_true_eq] at h
  obtain ⟨h1, h2⟩ := h
  refine ⟨by rw [f.N]; exact h1, ?_⟩
  unfold L2.Loc
  rw [f.sc]
  split at h2
  · rename_i hx; exact ⟨.inl hx, .inr hx⟩
  · rename_i hx; exact ⟨.inr hx, .inl (f.fn h2 x)⟩
  · cases h2
theorem Fits.tgts (f : Fits T P cf c X) : ∀ {is : List Nat} {es : List Expr}, isTgts c is es = true → SGs X es is
  | [], [], _ => .nil
  | i :: is, .Name x _ :: es, h => by
    unfold isTgts at h
    rw [Bool.and_eq_true] at h
    obtain ⟨h1, h2, h3⟩ := f.tgt h.1
    exact .cons h1 h2 h3 (f.tgts h.2)
  | [], _ :: _, h => by cases h
  | i :: is, [], h => by simp [isTgts] at h
  | i :: is, .BoolOp .. :: _, h | i :: is, .NamedExpr .. :: _, h | i :: is, .BinOp .. :: _, h | i :: is, .UnaryOp .. :: _, h | i :: is, .Lambda .. :: _, h | i :: is, .IfExp .. :: _, h
  | i :: is, .Dict .. :: _, h | i :: is, .Set .. :: _, h | i :: is, .ListComp .. :: _, h | i :: is, .SetComp .. :: _, h | i :: is, .DictComp .. :: _, h | i :: is, .GeneratorExp .. :: _, h
  | i :: is, .Await .. :: _, h | i :: is, .Yield .. :: _, h | i :: is, .YieldFrom .. :: _, h | i :: is, .Compare .. :: _, h | i :: is, .Call .. :: _, h | i :: is, .FormattedValue .. :: _, h
  | i :: is, .JoinedStr .. :: _, h | i :: is, .Constant .. :: _, h | i :: is, .Attribute .. :: _, h | i :: is, .Subscript .. :: _, h | i :: is, .Starred .. :: _, h | i :: is, .List .. :: _, h
  | i :: is, .Tuple .. :: _, h | i :: is, .Slice .. :: _, h => by simp [isTgts] at h
theorem Fits.target (f : Fits T P cf c X) {t : Tgt} {e : Expr} (h : mTgt c t e = true) : SG X e t := by
  cases t with
  | one i =>
    cases e <;> first | (simp [mTgt] at h; done) | skip
    rename_i x pos
    obtain ⟨h1, h2, h3⟩ := f.tgt (show isTgt c i x = true from h)
    exact sg_name f.nd h1 h2 h3
  | many is =>
    cases e <;> first | (simp [mTgt] at h; done) | skip
    exact sg_tup f.nd f.calm (f.tgts (show isTgts c is _ = true from h))
theorem Fits.inner (f : Fits T P cf c X) {scope : Scope} (s : Shared) (H : Hp) (C : Addr) (cl : List (Str × Addr)) (fp : List Addr) : Fits T P cf (Tp.inner c scope) (X.blk s H scope (compEnvC scope cl C X.env) fp) where
  N := f.N
  sc := by
    show relabel scope X.env = relS scope c.sc
    rw [← f.sc]
    rfl
  nd := f.nd
  calm := f.calm
  un := f.un
  fn := fun h => by cases h
  defs := fun g i h => ⟨(f.defs g i h).ex⟩
  gls := f.gls
  blt := f.blt
def plainB : Expr → Bool
  | .UnaryOp .Not _ _ => false
  | .BoolOp .. => false
  | .IfExp .. => false
  | .Compare .. => false
  | _ => true
theorem plain_true {e : Expr} {env : PySem.Env} (h : plainB e = true) : ∀ whole, isTrue e env whole = (do let v ← whole; standAt e.pos; holding [v] (truthy v)) := fun whole => by
  cases e <;> first | rfl | (cases h; done) | skip
  rename_i op x pos
  cases op <;> first | rfl | cases h
theorem bind_assoc {α β γ : Type} (m : M α) (k : α → M β) (j : β → M γ) : M.bind (M.bind m k) j = M.bind m fun a => M.bind (k a) j := by
  funext e
  unfold M.bind
  cases m e <;> rfl
theorem bind_pure {α β : Type} (a : α) (k : α → M β) : M.bind (M.pure a) k = k a := rfl
theorem bind_ite {β γ : Type} (b : Bool) (m m' : M β) (k : β → M γ) : M.bind (if b then m else m') k = if b then M.bind m k else M.bind m' k := by cases b <;> rfl
theorem asB_bool (b : Bool) : asB (.bool b) = M.pure b := rfl
structure Ok5 (T : ExcT) (P : PgI) (cf : Nat → List D → FRes) (c : MC) (X : Cx) (ie : IE) : Prop where
  e : ∀ ex, (mt P ie).e c ex = true → SE T X ex (den P cf ie).e
  o : ∀ ex, (mt P ie).e c ex = true → SO T X ex (den P cf ie).o
  b : (mt P ie).tb = true → ∀ ex, (mt P ie).e c ex = true → SB T X ex (den P cf ie).b
  a : ∀ es, (mt P ie).a c es = true → SA T X es (den P cf ie).a ∧ es.all notStar = true ∧ (es = [] → (den P cf ie).a = M.pure []) ∧ (isNil ie = true ↔ es = [])
  s : ∀ tg ex, zipOk ie tg = true → (mt P ie).s c ex = true → SI T X tg ex (den P cf ie).s
  ands : ∀ es pos, (mt P ie).a c es = true → es ≠ [] → SE T X (.BoolOp .And es pos) (den P cf ie).ands ∧ ((mt P ie).tb = true → SBW T X (.BoolOp .And es pos) (M.bind (den P cf ie).ands asB))
  ors : ∀ es pos, (mt P ie).a c es = true → es ≠ [] → SE T X (.BoolOp .Or es pos) (den P cf ie).ors ∧ ((mt P ie).tb = true → SBW T X (.BoolOp .Or es pos) (M.bind (den P cf ie).ors asB))
theorem Ok5.of' {ie : IE} {f : MC → Expr → Bool} {tb : Bool} {m : M D} (hm : mt P ie = Mt.of f tb) (hd : den P cf ie = Den.of m) (h : ∀ ex, f c ex = true → SE T X ex m) (hb : tb = true → ∀ ex, f c ex = true → SB T X ex (M.bind m asB)) : Ok5 T P cf c X ie where
  e := fun ex q => by rw [hm] at q; rw [hd]; exact h ex q
  o := fun ex q => by rw [hm] at q; rw [hd]; exact (h ex q).so
  b := fun ht ex q => by rw [hm] at q ht; rw [hd]; exact hb ht ex q
  a := fun es q => by rw [hm] at q; cases q
  s := fun tg ex _ q => by rw [hm] at q; rw [hd]; exact si_seq (h ex q).so
  ands := fun es pos q => by rw [hm] at q; cases q
  ors := fun es pos q => by rw [hm] at q; cases q
/-- .. whose test is its value's truth -/
theorem Ok5.of {ie : IE} {f : MC → Expr → Bool} {m : M D} (hm : mt P ie = Mt.of f) (hd : den P cf ie = Den.of m) (h : ∀ ex, f c ex = true → SE T X ex m ∧ plainB ex = true) : Ok5 T P cf c X ie :=
  .of' hm hd (fun ex q => (h ex q).1) fun _ ex q => (h ex q).1.sb (plain_true (h ex q).2)
theorem litM_pe {d : D} {e : Expr} (h : litM d e = true) : SE T X e (M.pure d) ∧ plainB e = true := by
  cases d with
  | none =>
    cases e <;> first | (simp [litM] at h; done) | skip
    rename_i v k pos
    cases v <;> first | (simp [litM] at h; done) | skip
    exact ⟨se_const pe_non fun _ => .non, rfl⟩
  | bool b =>
    cases e <;> first | (simp [litM] at h; done) | skip
    rename_i v k pos
    cases v <;> first | (simp [litM] at h; done) | skip
    rename_i b'
    have : b = b' := by simpa [litM] using h
    subst this
    exact ⟨se_const pe_bl fun _ => .bl _, rfl⟩
  | int i =>
    cases e <;> first | (simp [litM] at h; done) | skip
    rename_i v k pos
    cases v <;> first | (simp [litM] at h; done) | skip
    rename_i b'
    have : i = b' := by simpa [litM] using h
    subst this
    exact ⟨se_const pe_int fun _ => .int _, rfl⟩
  | str x =>
    cases e <;> first | (simp [litM] at h; done) | skip
    rename_i v k pos
    cases v <;> first | (simp [litM] at h; done) | skip
    rename_i b'
    have : x = b' := by simpa [litM] using h
    subst this
    exact ⟨se_const pe_str fun _ => .str _, rfl⟩
  | _ => simp [litM] at h
theorem bop_rule (o : BOp) : ∃ r, OpR X (binaryOp o.op) r ∧ Op2 X.K r o.f := by
  cases o with
  | add => exact ⟨_, op_addA, op2_add⟩
  | sub => exact ⟨_, op_sub, op2_sub⟩
  | mul => exact ⟨_, op_mulA, op2_mul⟩
  | div => exact ⟨_, op_fdivA, op2_div⟩
  | mod => exact ⟨_, op_modN, op2_mod⟩
  | pow => exact ⟨_, op_pow, op2_pow⟩
theorem cop_rule (hu : X.A.units + 100 < cLine) (o : COp) : ∃ r, OpR X (compareOp o.op) r ∧ Op2 X.K r o.f := by
  have h64 : X.A.units + 64 < cLine := by omega
  have h65 : X.A.units + 65 < cLine := by omega
  cases o with
  | lt => exact ⟨_, op_lt, op2_cmpI⟩
  | le => exact ⟨_, op_le, op2_cmpI⟩
  | gt => exact ⟨_, op_gt, op2_cmpI⟩
  | ge => exact ⟨_, op_ge, op2_cmpI⟩
  | eq => exact ⟨_, op_eqD h64, op2_eq⟩
  | ne => exact ⟨_, op_neD h64, op2_ne⟩
  | is_ => exact ⟨_, op_isN, op2_isN⟩
  | isnot => exact ⟨_, op_notN, op2_notN⟩
  | in_ => exact ⟨_, op_inA h65, op2_in⟩
  | notin => exact ⟨_, op_notInA h65, op2_notIn⟩
theorem boot_sum' : bootBuiltins "sum" = some (.builtin "sum") := by decide +kernel
theorem boot_all' : bootBuiltins "all" = some (.builtin "all") := by decide +kernel
theorem boot_min' : bootBuiltins "min" = some (.builtin "min") := by decide +kernel
theorem boot_max' : bootBuiltins "max" = some (.builtin "max") := by decide +kernel
theorem se_bi (f : Fits T P cf c X) (b : Bi) {es : List Expr} {ms : M (List Opd)} {p pos : Pos} (ha : SA T X es ms) (hg : Gl X b.ns) (hs : es.all notStar = true) (hne : es ≠ []) : SE T X (.Call (.Name b.ns p) es [] pos) (M.bind ms (doOpN b.f)) := by
  have hm : X.mg b.ns = none := f.blt _ (by cases b <;> simp [Bi.ns, bltNames])
  have hd : (b.ns == ("__debug__" : Str)) = false := by cases b <;> decide
  have hn : b.ns ≠ "__name__" := by cases b <;> decide
  cases b with
  | len => exact se_callB call_lenA opN_len ha hg hm PySem.boot_len hn hd hs hne
  | abs => exact se_callB call_abs opN_abs ha hg hm PyProof.Rows.boot_abs hn hd hs hne
  | int => exact se_callTy call_int1 opN_int ha hg hm PyProof.Rows.boot_int hn hd hs hne
  | str => exact se_callTy call_str_int opN_str ha hg hm PyProof.Rows.boot_str hn hd hs hne
  | max => exact se_callB (call_mxA f.calm (by have := f.un; omega)) opN_mxD ha hg hm boot_max' hn hd hs hne
  | min => exact se_callB (call_mnA f.calm (by have := f.un; omega)) opN_mnD ha hg hm boot_min' hn hd hs hne
  | sum => exact se_callB (call_smA f.calm) opN_smD ha hg hm boot_sum' hn hd hs hne
  | all => exact se_callB (cr_all f.calm) opN_all ha hg hm boot_all' hn hd hs hne
  | tuple => exact se_callTy call_tuple_of opN_tuple ha hg hm PyProof.Rows.boot_tuple hn hd hs hne
  | list => exact se_callTy call_list_of opN_list ha hg hm PyProof.Rows.boot_list hn hd hs hne
  | srd => exact se_callB (cr_sortedD (by have := f.un; omega)) opN_srd ha hg hm PyProof.Rows.boot_sorted hn hd hs hne
/-! ### pure expressions -/
theorem PureM.bind {α β : Type} {m : M α} {k : α → M β} (h : PureM m) (hk : ∀ a, PureM (k a)) : PureM (M.bind m k) := fun e b e' q => by
  unfold M.bind at q
  cases hm : m e with
  | ok a e1 =>
    rw [hm] at q
    have := h e a e1 hm
    subst this
    exact hk a _ b e' q
  | exc c x e1 => rw [hm] at q; cases q
  | stuck => rw [hm] at q; cases q
theorem PureM.pure {α : Type} (a : α) : PureM (M.pure a) := fun e b e' q => by cases q; rfl
theorem PureM.stuck {α : Type} : PureM (M.stuck : M α) := fun e b e' q => by cases q
theorem PureM.of {α : Type} (o : Option α) : PureM (M.of o) := by cases o <;> first | exact PureM.pure _ | exact PureM.stuck
theorem PureM.ite {α : Type} {b : Bool} {m m' : M α} (h : PureM m) (h' : PureM m') : PureM (if b then m else m') := by cases b <;> assumption
theorem pure_asB (d : D) : PureM (asB d) := PureM.of _
theorem pure_op1 {f : D → Option D} (o : Opd) : PureM (doOp1 f o) := fun e b e' q => by
  unfold doOp1 at q; split at q <;> cases q; rfl
theorem pure_op2 {f : D → D → Option D} (o o' : Opd) : PureM (doOp2 f o o') := fun e b e' q => by
  unfold doOp2 at q; split at q <;> cases q; rfl
theorem pure_opN {f : List D → Option D} (o : List Opd) : PureM (doOpN f o) := fun e b e' q => by
  unfold doOpN at q; split at q <;> cases q; rfl
theorem pure_asSrc (o : Opd) : PureM (asSrc o) := fun e b e' q => by
  unfold asSrc at q
  repeat' split at q
  all_goals (cases q; try rfl)
theorem pure_asRng (o : List Opd) : PureM (asRng o) := PureM.of _
theorem pure_rngA (n : Nat) (o : List Opd) : PureM (rngA n o) := by
  unfold rngA
  split
  · exact pure_asRng o
  · exact PureM.stuck
theorem pure_asZip (o : List Opd) : PureM (asZip o) := PureM.of _
theorem pure_mkTup (o : List Opd) : PureM (mkTup o) := fun e b e' q => by
  unfold mkTup at q
  repeat' split at q
  all_goals (cases q; try rfl)
theorem pure_mkLst (o : List Opd) : PureM (mkLst o) := fun e b e' q => by
  unfold mkLst at q
  repeat' split at q
  all_goals (cases q; try rfl)
theorem pure_callS {f : List D → FRes} (o : List Opd) : PureM (callS f o) := fun e b e' q => by
  unfold callS at q
  repeat' split at q
  all_goals (cases q; try rfl)
theorem pure_callM {f : List D → FRes} (o : List Opd) : PureM (callM none f o) := fun e b e' q => by
  unfold callM at q
  simp only [show ioSlot none o = none from rfl] at q
  repeat' split at q
  all_goals (cases q; try rfl)
theorem pure_var (i : Nat) : PureM (mVar i) := fun e b e' q => by
  unfold mVar at q
  repeat' split at q
  all_goals (cases q; try rfl)
theorem pure_varO (i : Nat) : PureM (mVarO i) := fun e b e' q => by
  unfold mVarO at q
  repeat' split at q
  all_goals (cases q; try rfl)
structure PureD (d : Den) : Prop where
  e : PureM d.e
  o : PureM d.o
  a : PureM d.a
  s : PureM d.s
  ands : PureM d.ands
  ors : PureM d.ors
theorem PureD.of {m : M D} (h : PureM m) : PureD (Den.of m) := ⟨h, h.bind fun _ => PureM.pure _, PureM.stuck, (h.bind fun _ => PureM.pure _).bind pure_asSrc, h, h⟩
theorem PureD.b {d : Den} (h : PureD d) : PureM d.b := h.e.bind pure_asB
theorem pure_slcB {d : Den} (h : PureD d) (n : Bool) : PureM (slcB d n) := by
  unfold slcB
  cases n with
  | true => exact PureM.pure _
  | false => exact h.e.bind fun d => PureM.of _
theorem pureD : ∀ ie : IE, pureIE P ie = true → PureD (den P cf ie)
  | .lit d, _ => .of (PureM.pure d)
  | .var i, _ => ⟨pure_var i, pure_varO i, PureM.stuck, (pure_varO i).bind pure_asSrc, pure_var i, pure_var i⟩
  | .frz i, h => by cases h
  | .glob x, _ => .of (PureM.of _)
  | .nil, _ => ⟨PureM.stuck, PureM.stuck, PureM.pure _, PureM.stuck, PureM.stuck, PureM.stuck⟩
  | .cons a b, h => by
    rw [pureIE, Bool.and_eq_true] at h
    have ha := pureD a h.1
    have hb := pureD b h.2
    exact ⟨PureM.stuck, PureM.stuck, ha.o.bind fun _ => hb.a.bind fun _ => PureM.pure _, PureM.stuck, PureM.ite ha.e (ha.b.bind fun _ => PureM.ite hb.ands (PureM.pure _)), PureM.ite ha.e (ha.b.bind fun _ => PureM.ite (PureM.pure _) hb.ors)⟩
  | .tup es, h => .of ((pureD es h).a.bind pure_mkTup)
  | .lst es, h => .of ((pureD es h).a.bind pure_mkLst)
  | .bin o a b, h => by
    rw [pureIE, Bool.and_eq_true] at h
    exact .of ((pureD a h.1).o.bind fun _ => (pureD b h.2).o.bind fun _ => pure_op2 _ _)
  | .neg a, h => .of ((pureD a h).o.bind fun _ => pure_op1 _)
  | .cmp o a b, h => by
    rw [pureIE, Bool.and_eq_true] at h
    exact .of ((pureD a h.1).o.bind fun _ => (pureD b h.2).o.bind fun _ => pure_op2 _ _)
  | .chain o o' a b d, h => by
    rw [pureIE, Bool.and_eq_true, Bool.and_eq_true] at h
    exact .of ((pureD a h.1.1).o.bind fun _ => (pureD b h.1.2).o.bind fun _ => ((pure_op2 _ _).bind pure_asB).bind fun _ => PureM.ite ((pureD d h.2).o.bind fun _ => pure_op2 _ _) (PureM.pure _))
  | .and_ es, h => .of (pureD es h).ands
  | .or_ es, h => .of (pureD es h).ors
  | .not_ a, h => .of ((pureD a h).b.bind fun _ => PureM.pure _)
  | .ifx t a b, h => by
    rw [pureIE, Bool.and_eq_true, Bool.and_eq_true] at h
    exact .of ((pureD t h.1.1).b.bind fun _ => PureM.ite (pureD a h.1.2).e (pureD b h.2).e)
  | .ix a b, h => by
    rw [pureIE, Bool.and_eq_true] at h
    exact .of ((pureD a h.1).o.bind fun _ => (pureD b h.2).o.bind fun _ => pure_op2 _ _)
  | .slc a l hh, h => by
    rw [pureIE, Bool.and_eq_true, Bool.and_eq_true] at h
    exact .of ((pureD a h.1.1).o.bind fun _ => (pure_slcB (pureD l h.1.2) _).bind fun _ => (pure_slcB (pureD hh h.2) _).bind fun _ => pure_op1 _)
  | .rev a, h => .of ((pureD a h).o.bind fun _ => pure_op1 _)
  | .call g es, h => by
    rw [pureIE, Bool.and_eq_true] at h
    obtain ⟨h1, h2⟩ := h
    unfold den
    cases hg : P.fn g with
    | none => exact .of PureM.stuck
    | some i =>
      simp only [hg] at h1 ⊢
      have : i.io = none := by simpa using h1
      rw [this]
      exact .of ((pureD es h2).a.bind pure_callM)
  | .look g es, h => .of ((pureD es h).a.bind pure_callS)
  | .bi b es, h => .of ((pureD es h).a.bind pure_opN)
  | .isi1 t a, h => .of ((pureD a h).o.bind fun _ => pure_op1 _)
  | .isi2 t u a, h => .of ((pureD a h).o.bind fun _ => pure_op1 _)
  | .lc .., h => by cases h
  | .rng es, h => ⟨PureM.stuck, PureM.stuck, PureM.stuck, (pureD es h).a.bind (pure_rngA _), PureM.stuck, PureM.stuck⟩
  | .zip2 es, h => ⟨PureM.stuck, PureM.stuck, PureM.stuck, (pureD es h).a.bind pure_asZip, PureM.stuck, PureM.stuck⟩
  | .srt a, h => .of ((pureD a h).o.bind fun _ => pure_op1 _)
  | .scs .., h => by cases h
  | .lc2 .., h => by cases h
  | .lrg1 a, h => .of ((pureD a h).o.bind fun _ => pure_op1 _)
  | .lrg a b, h => by
    rw [pureIE, Bool.and_eq_true] at h
    exact .of ((pureD a h.1).o.bind fun _ => (pureD b h.2).o.bind fun _ => pure_op2 _ _)
  | .lzp a b, h => by
    rw [pureIE, Bool.and_eq_true] at h
    exact .of ((pureD a h.1).o.bind fun _ => (pureD b h.2).o.bind fun _ => pure_op2 _ _)
  | .cat a b, h => by
    rw [pureIE, Bool.and_eq_true] at h
    exact .of ((pureD a h.1).o.bind fun _ => (pureD b h.2).o.bind fun _ => pure_op2 _ _)
theorem srcM_seq {m : M Opd} : SrcM (M.bind m asSrc) := fun e p e' q => by
  unfold M.bind at q
  cases hm : m e with
  | ok o e1 =>
    rw [hm] at q
    unfold srcAt
    simp only [asSrc] at q
    split at q
    · cases q; trivial
    · cases q; trivial
    · split at q
      · rename_i i ds h
        cases q
        exact h
      · cases q
    · cases q
  | exc c x e1 => rw [hm] at q; cases q
  | stuck => rw [hm] at q; cases q
theorem srcM_of {m : M D} : SrcM (Den.of m).s := srcM_seq (m := M.bind m fun d => M.pure (.inl d))
theorem srcM_rng {m : M (List Opd)} {n : Nat} : SrcM (M.bind m (rngA n)) := fun e p e' q => by
  unfold M.bind at q
  cases hm : m e with
  | ok o e1 =>
    rw [hm] at q
    unfold srcAt
    simp only [rngA, asRng] at q
    split at q
    · split at q
      · split at q <;> first | (cases q; trivial) | cases q
      · split at q <;> first | (cases q; trivial) | cases q
      · cases q
    · cases q
  | exc c x e1 => rw [hm] at q; cases q
  | stuck => rw [hm] at q; cases q
theorem srcM_zip {m : M (List Opd)} : SrcM (M.bind m asZip) := fun e p e' q => by
  unfold M.bind at q
  cases hm : m e with
  | ok o e1 =>
    rw [hm] at q
    unfold srcAt
    simp only [asZip] at q
    split at q
    · cases q; trivial
    · cases q; trivial
    · cases q
  | exc c x e1 => rw [hm] at q; cases q
  | stuck => rw [hm] at q; cases q
theorem srcM_stuck : SrcM M.stuck := fun e p e' q => by cases q
theorem srcM : ∀ ie : IE, SrcM (den P cf ie).s
  | .nil => srcM_stuck
  | .cons .. => srcM_stuck
  | .rng es => srcM_rng
  | .zip2 es => srcM_zip
  | .srt _ => by unfold den; exact srcM_of
  | .cat _ _ => by unfold den; exact srcM_of
  | .lrg _ _ => by unfold den; exact srcM_of
  | .lzp _ _ => by unfold den; exact srcM_of
  | .scs _ _ _ _ => by unfold den; exact srcM_of
  | .lrg1 _ => by unfold den; exact srcM_of
  | .lc2 _ _ _ _ _ _ _ _ _ => by unfold den; exact srcM_of
  | .var i => srcM_seq
  | .lit _ => by unfold den; exact srcM_of
  | .frz _ => by unfold den; exact srcM_of
  | .glob _ => by unfold den; exact srcM_of
  | .tup _ => by unfold den; exact srcM_of
  | .lst _ => by unfold den; exact srcM_of
  | .bin _ _ _ => by unfold den; exact srcM_of
  | .neg _ => by unfold den; exact srcM_of
  | .cmp _ _ _ => by unfold den; exact srcM_of
  | .chain _ _ _ _ _ => by unfold den; exact srcM_of
  | .and_ _ => by unfold den; exact srcM_of
  | .or_ _ => by unfold den; exact srcM_of
  | .not_ _ => by unfold den; exact srcM_of
  | .ifx _ _ _ => by unfold den; exact srcM_of
  | .ix _ _ => by unfold den; exact srcM_of
  | .slc _ _ _ => by unfold den; exact srcM_of
  | .rev _ => by unfold den; exact srcM_of
  | .call _ _ => by unfold den; exact srcM_of
  | .look _ _ => by unfold den; exact srcM_of
  | .bi _ _ => by unfold den; exact srcM_of
  | .isi1 _ _ => by unfold den; exact srcM_of
  | .isi2 _ _ _ => by unfold den; exact srcM_of
  | .lc _ _ _ _ _ => by unfold den; exact srcM_of
theorem srcM_noOwn {m : M Src} (h : SrcM m) : SrcM (noOwn m) := fun e p e' q => by
  unfold noOwn M.bind at q
  cases hm : m e with
  | ok o e1 =>
    rw [hm] at q
    simp only at q
    split at q
    · cases q
      exact h e _ _ hm
    · cases q
  | exc c x e1 => rw [hm] at q; cases q
  | stuck => rw [hm] at q; cases q
theorem noOwn_no {m : M Src} : NoOwn (noOwn m) := fun e p e' q => by
  unfold noOwn M.bind at q
  cases hm : m e with
  | ok o e1 =>
    rw [hm] at q
    simp only at q
    split at q
    · cases q
      assumption
    · cases q
  | exc c x e1 => rw [hm] at q; cases q
  | stuck => rw [hm] at q; cases q
theorem SI.noOwn {tg ex : Expr} {m : M Src} (h : SI T X tg ex m) : SI T X tg ex (Tp.noOwn m) := fun F tk => PI.weak (h F tk) fun σ H Q ⟨e, G, s, q⟩ => by
  refine ⟨e, G, s, ?_⟩
  unfold Tp.noOwn M.bind at q
  unfold Aft at q ⊢
  cases hm : m e with
  | ok p e1 =>
    rw [hm] at q
    by_cases hp : p.2 = none
    · simp only [if_pos hp] at q
      exact q
    · simp only [if_neg hp] at q
      exact q.elim
  | exc c x e1 => rw [hm] at q; exact q
  | stuck => rw [hm] at q; exact q
end
end Tp
/-! Tp15: the theorem over all forms of expressions. -/
namespace Tp
open PySem PySem.Spec PyProof.Rows L2
section
variable {T : ExcT} {P : PgI} {cf : Nat → List D → FRes}
theorem and_test {m m2 : M D} : M.bind (M.bind (M.bind m asB) fun k => if k then m2 else M.pure (.bool false)) asB = M.bind (M.bind m asB) fun k => if k then M.bind m2 asB else M.pure false := by
  rw [bind_assoc]
  congr 1
  funext k
  cases k <;> rfl
theorem or_test {m m2 : M D} : M.bind (M.bind (M.bind m asB) fun k => if k then M.pure (.bool true) else m2) asB = M.bind (M.bind m asB) fun k => if k then M.pure true else M.bind m2 asB := by
  rw [bind_assoc]
  congr 1
  funext k
  cases k <;> rfl
theorem not_test {m : M Bool} : M.bind (M.bind m fun k => M.pure (.bool !k)) asB = M.bind m fun k => M.pure (!k) := by
  rw [bind_assoc]
  rfl
theorem args_ne {ie : IE} {es : List Expr} (h : isNil ie = true ↔ es = []) : (isNil ie = false ↔ es ≠ []) := by
  cases z : isNil ie with
  | true => simp [h.mp z]
  | false =>
    refine ⟨fun _ q => ?_, fun _ => rfl⟩
    rw [h.mpr q] at z
    cases z
theorem blkOwn_snd {c : MC} {own : List Nat} : (blkOwn c own).map (·.2) = own := by
  unfold blkOwn
  rw [List.map_map]
  exact List.map_id own
theorem lc_sn {c : MC} {X : Cx} (f : Fits T P cf c X) {t : Tgt} {own : List Nat} {elt iter cond : IE} {x tg it : Expr} {ifs : List Expr} {scope : Scope} {pos : Pos}
    (hi : SI T X tg it (den P cf iter).s) (he : ∀ (s : Shared) (H : Hp) (C : Addr) (cl : List (Str × Addr)) (fp : List Addr), SE T (X.blk s H scope (compEnvC scope cl C X.env) fp) x (den P cf elt).e) (h2 : notSet it = true) (h3 : mTgt (Tp.inner c scope) t tg = true)
    (h4 : (t.slots.all fun i => decide (i ∈ own)) = true) (h5 : blkC c.N c.sc scope (blkOwn c own) = true)
    (hcd : ∀ (s : Shared) (H : Hp) (C : Addr) (cl : List (Str × Addr)) (fp : List Addr), SC T (X.blk s H scope (compEnvC scope cl C X.env) fp) ifs (if isNil cond then M.pure true else (den P cf cond).b)) :
    SN T X (.ListComp x [⟨tg, it, ifs, 0⟩] scope pos) (lcM (if pureIE P elt && pureIE P cond then (den P cf iter).s else noOwn (den P cf iter).s) t own (if isNil cond then M.pure true else (den P cf cond).b) (den P cf elt).e) := by
  have ok : BlkOk X.N X.env.scope scope (blkOwn c own) := by
    rw [f.N, f.sc]
    exact blkOk_by h5
  have ht : ∀ i ∈ t.slots, i ∈ (blkOwn c own).map (·.2) := by
    rw [blkOwn_snd]
    intro i hi
    exact of_decide_eq_true (List.all_eq_true.mp h4 i hi)
  have hs1 : SI T X tg it (if pureIE P elt && pureIE P cond then (den P cf iter).s else noOwn (den P cf iter).s) := by
    split
    · exact hi
    · exact hi.noOwn
  have hs2 : SrcM (if pureIE P elt && pureIE P cond then (den P cf iter).s else noOwn (den P cf iter).s) := by
    split
    · exact srcM iter
    · exact srcM_noOwn (srcM iter)
  have hs3 : NoOwn (if pureIE P elt && pureIE P cond then (den P cf iter).s else noOwn (den P cf iter).s) ∨ (PureM (if isNil cond then M.pure true else (den P cf cond).b) ∧ PureM (den P cf elt).e) := by
    split
    · rename_i h
      rw [Bool.and_eq_true] at h
      refine .inr ⟨PureM.ite (PureM.pure _) (pureD cond h.2).b, (pureD elt h.1).e⟩
    · exact .inl noOwn_no
  have := sn_lc (T := T) (X := X) (pos := pos) f.calm f.nd hs1 (own := blkOwn c own) (t := t) (mc := if isNil cond then M.pure true else (den P cf cond).b) (me := (den P cf elt).e) ⟨fun s H C cl fp => (f.inner s H C cl fp).target h3, hcd, he⟩ ok ht hs2 hs3 h2
  rw [blkOwn_snd] at this
  exact this
theorem lc2_open {c : MC} {X : Cx} (f : Fits T P cf c X) {t t1 : Tgt} {own own1 : List Nat} {elt iter cond iter1 cond1 : IE} {ex : Expr}
    (hi : ∀ tg it, zipOk iter tg = true → (mt P iter).s c it = true → SI T X tg it (den P cf iter).s)
    (hi1 : ∀ c X, Fits T P cf c X → ∀ tg it, zipOk iter1 tg = true → (mt P iter1).s c it = true → SI T X tg it (den P cf iter1).s)
    (he : ∀ c X, Fits T P cf c X → ∀ ex, (mt P elt).e c ex = true → SE T X ex (den P cf elt).e)
    (hc : ∀ c X, Fits T P cf c X → (mt P cond).tb = true → ∀ ex, (mt P cond).e c ex = true → SB T X ex (den P cf cond).b)
    (hc1 : ∀ c X, Fits T P cf c X → (mt P cond1).tb = true → ∀ ex, (mt P cond1).e c ex = true → SB T X ex (den P cf cond1).b)
    (h : (mt P (.lc2 t own elt iter cond t1 own1 iter1 cond1)).e c ex = true) :
    ∃ x tg it ifs tg1 it1 ifs1 scope pos, ex = .ListComp x [⟨tg, it, ifs, 0⟩, ⟨tg1, it1, ifs1, 0⟩] scope pos ∧ SI T X tg it (noOwn (den P cf iter).s) ∧
      BlkS T X scope x tg ifs t (if isNil cond then M.pure true else (den P cf cond).b) (den P cf elt).e ∧ BlkS T X scope x tg1 ifs1 t1 (if isNil cond1 then M.pure true else (den P cf cond1).b) (den P cf elt).e ∧
      (∀ (s : Shared) (H : Hp) (C : Addr) (cl : List (Str × Addr)) (fp : List Addr), SI T (X.blk s H scope (compEnvC scope cl C X.env) fp) tg1 it1 (noOwn (den P cf iter1).s)) ∧
      BlkOk X.N X.env.scope scope (blkOwn c own) ∧ (∀ i ∈ t.slots, i ∈ (blkOwn c own).map (·.2)) ∧ (∀ i ∈ t1.slots, i ∈ own1) ∧ (∀ i ∈ own1, i ∈ (blkOwn c own).map (·.2)) ∧ notSet it = true ∧ notSet it1 = true := by
  cases ex <;> first | (cases h; done) | skip
  simp only [mt, Mt.of] at h
  split at h <;> first | (cases h; done) | skip
  rename_i heq
  cases heq
  simp only [Bool.and_eq_true, decide_eq_true_eq] at h
  obtain ⟨⟨⟨⟨⟨⟨⟨⟨⟨⟨⟨⟨⟨⟨⟨⟨rfl, rfl⟩, h1⟩, h2⟩, hz⟩, g1⟩, g2⟩, gz⟩, h3⟩, g3⟩, h4⟩, g4⟩, g5⟩, h5⟩, h6⟩, h7⟩, h8⟩ := h
  have e : (blkOwn c own).map (·.2) = own := blkOwn_snd
  have cnd : ∀ {ifs : List Expr} {cd : IE} (s : Shared) (H : Hp) (C : Addr) (cl : List (Str × Addr)) (fp : List Addr) (scope : Scope), Fits T P cf (Tp.inner c scope) (X.blk s H scope (compEnvC scope cl C X.env) fp) →
      (∀ c X, Fits T P cf c X → (mt P cd).tb = true → ∀ ex, (mt P cd).e c ex = true → SB T X ex (den P cf cd).b) →
      (match ifs with | [] => isNil cd | [y] => !isNil cd && (mt P cd).e (Tp.inner c scope) y && (mt P cd).tb | _ => false) = true → SC T (X.blk s H scope (compEnvC scope cl C X.env) fp) ifs (if isNil cd then M.pure true else (den P cf cd).b) := fun {ifs cd} s H C cl fp scope fi hcd h7 => by
    split at h7
    · rw [h7]
      exact sc_nil
    · simp only [Bool.and_eq_true, Bool.not_eq_true'] at h7
      rw [h7.1.1]
      exact sc_one (hcd _ _ fi h7.2 _ h7.1.2)
    · cases h7
  refine ⟨_, _, _, _, _, _, _, _, _, rfl, (hi _ _ hz h1).noOwn, ⟨fun s H C cl fp => (f.inner s H C cl fp).target h3, fun s H C cl fp => cnd s H C cl fp _ (f.inner s H C cl fp) hc h7, fun s H C cl fp => he _ _ (f.inner s H C cl fp) _ h6⟩,
    ⟨fun s H C cl fp => (f.inner s H C cl fp).target g3, fun s H C cl fp => cnd s H C cl fp _ (f.inner s H C cl fp) hc1 h8, fun s H C cl fp => he _ _ (f.inner s H C cl fp) _ h6⟩,
    fun s H C cl fp => (hi1 _ _ (f.inner s H C cl fp) _ _ gz g1).noOwn, ?_, ?_, ?_, ?_, h2, g2⟩
  · rw [f.N, f.sc]
    exact blkOk_by h5
  · rw [e]
    intro i hi
    exact of_decide_eq_true (List.all_eq_true.mp h4 i hi)
  · intro i hi
    exact of_decide_eq_true (List.all_eq_true.mp g4 i hi)
  · rw [e]
    intro i hi
    exact of_decide_eq_true (List.all_eq_true.mp g5 i hi)
theorem lc2_sn {c : MC} {X : Cx} (f : Fits T P cf c X) {t t1 : Tgt} {own own1 : List Nat} {elt iter cond iter1 cond1 : IE} {ex : Expr}
    (hi : ∀ tg it, zipOk iter tg = true → (mt P iter).s c it = true → SI T X tg it (den P cf iter).s)
    (hi1 : ∀ c X, Fits T P cf c X → ∀ tg it, zipOk iter1 tg = true → (mt P iter1).s c it = true → SI T X tg it (den P cf iter1).s)
    (he : ∀ c X, Fits T P cf c X → ∀ ex, (mt P elt).e c ex = true → SE T X ex (den P cf elt).e)
    (hc : ∀ c X, Fits T P cf c X → (mt P cond).tb = true → ∀ ex, (mt P cond).e c ex = true → SB T X ex (den P cf cond).b)
    (hc1 : ∀ c X, Fits T P cf c X → (mt P cond1).tb = true → ∀ ex, (mt P cond1).e c ex = true → SB T X ex (den P cf cond1).b)
    (h : (mt P (.lc2 t own elt iter cond t1 own1 iter1 cond1)).e c ex = true) : SN T X ex (den P cf (.lc2 t own elt iter cond t1 own1 iter1 cond1)).e := by
  obtain ⟨x, tg, it, ifs, tg1, it1, ifs1, scope, pos, rfl, k1, k2, k3, k4, k5, k6, k7, k8, k9, k10⟩ := lc2_open f hi hi1 he hc hc1 h
  have := sn_lc2 (T := T) (X := X) (pos := pos) f.calm f.nd k1 k2 k3 k4 k5 k6 k7 k8 noOwn_no noOwn_no k9 k10
  rw [blkOwn_snd] at this
  exact this
theorem sound : ∀ (ie : IE) (c : MC) (X : Cx), Fits T P cf c X → Ok5 T P cf c X ie
  | .lit d, c, X, f => .of (f := fun _ e => litM d e) rfl rfl fun ex h => litM_pe h
  | .var i, c, X, f => by
    have hv : ∀ ex, (mt P (.var i)).e c ex = true → ∃ x pos, ex = .Name x pos ∧ isVar c i x = true := fun ex h => by
      cases ex <;> first | cases h | exact ⟨_, _, rfl, h⟩
    refine ⟨fun ex h => ?_, fun ex h => ?_, fun _ ex h => ?_, fun es h => (by cases h), fun tg ex _ h => ?_, fun es pos h => (by cases h), fun es pos h => (by cases h)⟩
    · obtain ⟨x, pos, rfl, h⟩ := hv ex h
      obtain ⟨h1, h2, h3, h4⟩ := f.var h
      exact se_var h1 h2 h3 h4
    · obtain ⟨x, pos, rfl, h⟩ := hv ex h
      obtain ⟨h1, h2, h3, h4⟩ := f.var h
      exact so_var h1 h2 h3 h4
    · obtain ⟨x, pos, rfl, h⟩ := hv ex h
      obtain ⟨h1, h2, h3, h4⟩ := f.var h
      exact (se_var h1 h2 h3 h4).sb (plain_true rfl)
    · obtain ⟨x, pos, rfl, h⟩ := hv ex h
      obtain ⟨h1, h2, h3, h4⟩ := f.var h
      exact si_seq (so_var h1 h2 h3 h4)
  | .frz i, c, X, f => .of (f := fun c e => match e with | .Name x _ => isVar c i x | _ => false) rfl rfl fun ex h => by
    cases ex <;> first | (cases h; done) | skip
    obtain ⟨h1, h2, h3, h4⟩ := f.var h
    exact ⟨se_frz h1 h2 h3 h4, rfl⟩
  | .glob g, c, X, f => .of (f := fun c e => match e with | .Name x _ => decide (x = g) && isGl c x | _ => false) rfl rfl fun ex h => by
    cases ex <;> first | (cases h; done) | skip
    rename_i x pos
    have h' : (decide (x = g) && isGl c x) = true := h
    rw [Bool.and_eq_true, decide_eq_true_eq] at h'
    obtain ⟨rfl, h2⟩ := h'
    obtain ⟨hg, hd⟩ := f.gl h2
    refine ⟨?_, rfl⟩
    cases z : P.gl.lookup x with
    | none => exact fun F tk => PE.weak (t := fun _ _ _ => False) ⟨fun _ _ _ _ _ _ q => q.elim⟩ fun σ H Q ⟨e, G, s, q⟩ => q
    | some d =>
      obtain ⟨u, v, h3, h4, h5⟩ := f.gls x d z
      exact se_const (pe_glob hg h3 h4 hd) h5
  | .nil, c, X, f => by
    refine ⟨fun ex h => (by cases h), fun ex h => (by cases h), fun _ ex h => (by cases h), fun es h => ?_, fun tg ex _ h => (by cases h), fun es pos h hn => ?_, fun es pos h hn => ?_⟩
    · cases es with
      | nil => exact ⟨sa_nil, rfl, fun _ => rfl, ⟨fun _ => rfl, fun _ => rfl⟩⟩
      | cons _ _ => cases h
    · cases es with
      | nil => exact absurd rfl hn
      | cons _ _ => cases h
    · cases es with
      | nil => exact absurd rfl hn
      | cons _ _ => cases h
  | .cons a b, c, X, f => by
    have oa := sound a c X f
    have ob := sound b c X f
    have hc : ∀ es, (mt P (.cons a b)).a c es = true → ∃ e r, es = e :: r ∧ (mt P a).e c e = true ∧ notStar e = true ∧ (mt P b).a c r = true := fun es h => by
      cases es with
      | nil => cases h
      | cons e r =>
        have h' : ((mt P a).e c e && notStar e && (mt P b).a c r) = true := h
        rw [Bool.and_eq_true, Bool.and_eq_true] at h'
        exact ⟨e, r, rfl, h'.1.1, h'.1.2, h'.2⟩
    refine ⟨fun ex h => (by cases h), fun ex h => (by cases h), fun _ ex h => (by cases h), fun es h => ?_, fun tg ex _ h => (by cases h), fun es pos h hn => ?_, fun es pos h hn => ?_⟩
    · obtain ⟨e, r, rfl, h1, h2, h3⟩ := hc es h
      obtain ⟨k1, k2, k3, _⟩ := ob.a r h3
      exact ⟨sa_cons (oa.o e h1) k1 h2, by rw [List.all_cons, h2, k2]; rfl, (fun z => nomatch z), ⟨(fun z => nomatch z), fun z => nomatch z⟩⟩
    · obtain ⟨e, r, rfl, h1, h2, h3⟩ := hc es h
      obtain ⟨_, _, _, k4⟩ := ob.a r h3
      have tbs : (mt P (.cons a b)).tb = true → (mt P a).tb = true ∧ (mt P b).tb = true := fun z => by
        have z' : ((mt P a).tb && (mt P b).tb) = true := z
        rw [Bool.and_eq_true] at z'
        exact z'
      show SE T X _ (if isNil b then (den P cf a).e else M.bind (den P cf a).b fun k => if k then (den P cf b).ands else M.pure (.bool false)) ∧ (_ → SBW T X _ (M.bind (if isNil b then (den P cf a).e else M.bind (den P cf a).b fun k => if k then (den P cf b).ands else M.pure (.bool false)) asB))
      cases r with
      | nil =>
        rw [k4.mpr rfl]
        simp only [if_true]
        exact ⟨se_one (oa.e e h1), fun z => sbw_and1 (oa.b (tbs z).1 e h1)⟩
      | cons e2 r =>
        rw [(args_ne k4).mpr (by simp)]
        simp only [Bool.false_eq_true, if_false]
        obtain ⟨j1, j2⟩ := ob.ands (e2 :: r) pos h3 (by simp)
        refine ⟨se_and (oa.e e h1) j1, fun z => ?_⟩
        show SBW T X _ (M.bind (M.bind (M.bind (den P cf a).e asB) fun k => if k then (den P cf b).ands else M.pure (.bool false)) asB)
        rw [and_test]
        exact sbw_and (oa.b (tbs z).1 e h1) (j2 (tbs z).2)
    · obtain ⟨e, r, rfl, h1, h2, h3⟩ := hc es h
      obtain ⟨_, _, _, k4⟩ := ob.a r h3
      have tbs : (mt P (.cons a b)).tb = true → (mt P a).tb = true ∧ (mt P b).tb = true := fun z => by
        have z' : ((mt P a).tb && (mt P b).tb) = true := z
        rw [Bool.and_eq_true] at z'
        exact z'
      show SE T X _ (if isNil b then (den P cf a).e else M.bind (den P cf a).b fun k => if k then M.pure (.bool true) else (den P cf b).ors) ∧ (_ → SBW T X _ (M.bind (if isNil b then (den P cf a).e else M.bind (den P cf a).b fun k => if k then M.pure (.bool true) else (den P cf b).ors) asB))
      cases r with
      | nil =>
        rw [k4.mpr rfl]
        simp only [if_true]
        exact ⟨se_one (oa.e e h1), fun z => sbw_or1 (oa.b (tbs z).1 e h1)⟩
      | cons e2 r =>
        rw [(args_ne k4).mpr (by simp)]
        simp only [Bool.false_eq_true, if_false]
        obtain ⟨j1, j2⟩ := ob.ors (e2 :: r) pos h3 (by simp)
        refine ⟨se_or (oa.e e h1) j1, fun z => ?_⟩
        show SBW T X _ (M.bind (M.bind (M.bind (den P cf a).e asB) fun k => if k then M.pure (.bool true) else (den P cf b).ors) asB)
        rw [or_test]
        exact sbw_or (oa.b (tbs z).1 e h1) (j2 (tbs z).2)
  | .tup es, c, X, f => .of (f := fun c e => match e with | .Tuple xs _ _ => (mt P es).a c xs | _ => false) rfl rfl fun ex h => by
    cases ex <;> first | (cases h; done) | skip
    exact ⟨se_tup ((sound es c X f).a _ h).1, rfl⟩
  | .lst es, c, X, f => .of (f := fun c e => match e with | .List xs _ => (mt P es).a c xs | _ => false) rfl rfl fun ex h => by
    cases ex <;> first | (cases h; done) | skip
    exact ⟨(sn_lst ((sound es c X f).a _ h).1).se, rfl⟩
  | .bin o a b, c, X, f => .of (f := fun c e => match e with | .BinOp x op y _ => decide (op = o.op) && (mt P a).e c x && (mt P b).e c y | _ => false) rfl rfl fun ex h => by
    cases ex <;> first | (cases h; done) | skip
    rename_i x op y pos
    have h' : (decide (op = o.op) && (mt P a).e c x && (mt P b).e c y) = true := h
    rw [Bool.and_eq_true, Bool.and_eq_true, decide_eq_true_eq] at h'
    obtain ⟨⟨rfl, h1⟩, h2⟩ := h'
    obtain ⟨r, w1, w2⟩ := bop_rule (X := X) o
    exact ⟨se_bin w1 w2 ((sound a c X f).o x h1) ((sound b c X f).o y h2), rfl⟩
  | .lrg a b, c, X, f => .of (f := fun c e => match e with | .Call (.Name x _) [.Call (.Name y _) [a1, b1] [] _] [] _ => decide (x = "list") && isGl c x && decide (y = "range") && isGl c y && notStar a1 && notStar b1 && (mt P a).e c a1 && (mt P b).e c b1 | _ => false) rfl rfl fun ex h => by
    cases ex <;> first | (cases h; done) | skip
    split at h <;> first | (cases h; done) | skip
    rename_i heq
    cases heq
    simp only [Bool.and_eq_true, decide_eq_true_eq] at h
    obtain ⟨⟨⟨⟨⟨⟨⟨rfl, h2⟩, rfl⟩, h4⟩, h5⟩, h6⟩, h7⟩, h8⟩ := h
    exact ⟨se_lrg (f.gl h2).1 (f.blt _ (by simp [bltNames])) (f.gl h4).1 (f.blt _ (by simp [bltNames])) f.calm h5 h6 ((sound a c X f).o _ h7) ((sound b c X f).o _ h8), rfl⟩
  | .lrg1 a, c, X, f => .of (f := fun c e => match e with | .Call (.Name x _) [.Call (.Name y _) [a1] [] _] [] _ => decide (x = "list") && isGl c x && decide (y = "range") && isGl c y && notStar a1 && (mt P a).e c a1 | _ => false) rfl rfl fun ex h => by
    cases ex <;> first | (cases h; done) | skip
    split at h <;> first | (cases h; done) | skip
    rename_i heq
    cases heq
    simp only [Bool.and_eq_true, decide_eq_true_eq] at h
    obtain ⟨⟨⟨⟨⟨rfl, h2⟩, rfl⟩, h4⟩, h5⟩, h7⟩ := h
    exact ⟨se_lrg1 (f.gl h2).1 (f.blt _ (by simp [bltNames])) (f.gl h4).1 (f.blt _ (by simp [bltNames])) f.calm h5 ((sound a c X f).o _ h7), rfl⟩
  | .lc2 t own elt iter cond t1 own1 iter1 cond1, c, X, f => .of (f := fun c e => match e with
    | .ListComp x [⟨tg, it, ifs, asy⟩, ⟨tg1, it1, ifs1, asy1⟩] scope _ => decide (asy = 0) && decide (asy1 = 0) && (mt P iter).s c it && notSet it && zipOk iter tg && (mt P iter1).s (Tp.inner c scope) it1 && notSet it1 && zipOk iter1 tg1 && mTgt (Tp.inner c scope) t tg && mTgt (Tp.inner c scope) t1 tg1 &&
        (t.slots.all fun i => decide (i ∈ own)) && (t1.slots.all fun i => decide (i ∈ own1)) && (own1.all fun i => decide (i ∈ own)) && blkC c.N c.sc scope (blkOwn c own) && (mt P elt).e (Tp.inner c scope) x &&
        (match ifs with | [] => isNil cond | [y] => !isNil cond && (mt P cond).e (Tp.inner c scope) y && (mt P cond).tb | _ => false) && (match ifs1 with | [] => isNil cond1 | [y] => !isNil cond1 && (mt P cond1).e (Tp.inner c scope) y && (mt P cond1).tb | _ => false)
    | _ => false) rfl rfl fun ex h => by
    refine ⟨(lc2_sn f (fun tg it hz h1 => (sound iter c X f).s _ _ hz h1) (fun c X f tg it hz h1 => (sound iter1 c X f).s _ _ hz h1) (fun c X f ex h => (sound elt c X f).e ex h) (fun c X f tb ex h => (sound cond c X f).b tb ex h) (fun c X f tb ex h => (sound cond1 c X f).b tb ex h) h).se, ?_⟩
    cases ex <;> first | (cases h; done) | skip
    rfl
  | .lzp a b, c, X, f => .of (f := fun c e => match e with | .Call (.Name x _) [.Call (.Name y _) [a1, b1] [] _] [] _ => decide (x = "list") && isGl c x && decide (y = "zip") && isGl c y && notStar a1 && notStar b1 && (mt P a).e c a1 && (mt P b).e c b1 | _ => false) rfl rfl fun ex h => by
    cases ex <;> first | (cases h; done) | skip
    split at h <;> first | (cases h; done) | skip
    rename_i heq
    cases heq
    simp only [Bool.and_eq_true, decide_eq_true_eq] at h
    obtain ⟨⟨⟨⟨⟨⟨⟨rfl, h2⟩, rfl⟩, h4⟩, h5⟩, h6⟩, h7⟩, h8⟩ := h
    exact ⟨se_lzp (f.gl h2).1 (f.blt _ (by simp [bltNames])) (f.gl h4).1 (f.blt _ (by simp [bltNames])) f.calm h5 h6 ((sound a c X f).o _ h7) ((sound b c X f).o _ h8), rfl⟩
  | .scs t own elt iter, c, X, f => .of (f := fun c e => match e with | .Call (.Name x _) [.SetComp y [⟨tg, it, ifs, asy⟩] scope _] [] _ => decide (x = "sorted") && isGl c x && decide (asy = 0) && ifs.isEmpty && (mt P iter).s c it && notSet it && zipOk iter tg && mTgt (Tp.inner c scope) t tg && (t.slots.all fun i => decide (i ∈ own)) && blkC c.N c.sc scope (blkOwn c own) && (mt P elt).e (Tp.inner c scope) y | _ => false) rfl rfl fun ex h => by
    cases ex <;> first | (cases h; done) | skip
    split at h <;> first | (cases h; done) | skip
    rename_i heq
    cases heq
    rename_i y tg it ifs asy scope cpos
    simp only [Bool.and_eq_true, decide_eq_true_eq] at h
    obtain ⟨⟨⟨⟨⟨⟨⟨⟨⟨⟨rfl, g2⟩, rfl⟩, g3⟩, h1⟩, h2⟩, hz⟩, h3⟩, h4⟩, h5⟩, h6⟩ := h
    obtain rfl : ifs = [] := List.isEmpty_iff.mp g3
    have ok : BlkOk X.N X.env.scope scope (blkOwn c own) := by
      rw [f.N, f.sc]
      exact blkOk_by h5
    have ht : ∀ i ∈ t.slots, i ∈ (blkOwn c own).map (·.2) := by
      rw [blkOwn_snd]
      intro i hi
      exact of_decide_eq_true (List.all_eq_true.mp h4 i hi)
    have s0 := (sound iter c X f).s _ _ hz h1
    have he : ∀ (s : Shared) (H : Hp) (C : Addr) (cl : List (Str × Addr)) (fp : List Addr), SE T (X.blk s H scope (compEnvC scope cl C X.env) fp) y (den P cf elt).e := fun s H C cl fp => (sound elt _ _ (f.inner s H C cl fp)).e _ h6
    have k1 : SI T X tg it (if pureIE P elt then (den P cf iter).s else noOwn (den P cf iter).s) := by
      split
      · exact s0
      · exact s0.noOwn
    have k2 : SrcM (if pureIE P elt then (den P cf iter).s else noOwn (den P cf iter).s) := by
      split
      · exact srcM iter
      · exact srcM_noOwn (srcM iter)
    have k3 : NoOwn (if pureIE P elt then (den P cf iter).s else noOwn (den P cf iter).s) ∨ PureM (den P cf elt).e := by
      split
      · rename_i h
        exact .inr (pureD elt h).e
      · exact .inl noOwn_no
    have e : csM (if pureIE P elt then (den P cf iter).s else noOwn (den P cf iter).s) t ((blkOwn c own).map (·.2)) (den P cf elt).e = csM (if pureIE P elt then (den P cf iter).s else noOwn (den P cf iter).s) t own (den P cf elt).e := by rw [blkOwn_snd]
    exact ⟨Eq.mp (congrArg (SE T X _) e) (se_scs (f.gl g2).1 (f.blt _ (by simp [bltNames])) f.calm f.nd k1 ok (fun s H C cl fp => (f.inner s H C cl fp).target h3) he ht k2 k3 h2), rfl⟩
  | .cat a b, c, X, f => .of (f := fun c e => match e with | .BinOp x .Add y _ => (mt P a).e c x && (mt P b).e c y | _ => false) rfl rfl fun ex h => by
    cases ex <;> first | (cases h; done) | skip
    rename_i x op y pos
    cases op <;> first | (cases h; done) | skip
    have h' : ((mt P a).e c x && (mt P b).e c y) = true := h
    rw [Bool.and_eq_true] at h'
    exact ⟨(sn_cat ((sound a c X f).o x h'.1) ((sound b c X f).o y h'.2)).se, rfl⟩
  | .neg a, c, X, f => .of (f := fun c e => match e with | .UnaryOp .USub x _ => (mt P a).e c x | _ => false) rfl rfl fun ex h => by
    cases ex <;> first | (cases h; done) | skip
    rename_i op x pos
    cases op <;> first | (cases h; done) | skip
    exact ⟨se_un un_neg op1_neg ((sound a c X f).o x h), rfl⟩
  | .cmp o a b, c, X, f => .of' (f := fun c e => match e with | .Compare x [op] [y] _ => decide (op = o.op) && (mt P a).e c x && (mt P b).e c y && !behindInMarks op y | _ => false) rfl rfl (fun ex h => by
      cases ex <;> first | (cases h; done) | skip
      rename_i x ops ys pos
      split at h <;> first | (cases h; done) | skip
      rename_i heq
      cases heq
      simp only [Bool.and_eq_true, decide_eq_true_eq, Bool.not_eq_true'] at h
      obtain ⟨⟨⟨rfl, h1⟩, h2⟩, h3⟩ := h
      obtain ⟨r, w1, w2⟩ := cop_rule f.un o
      exact se_cmp w1 w2 ((sound a c X f).o _ h1) ((sound b c X f).o _ h2) h3) fun _ ex h => by
      cases ex <;> first | (cases h; done) | skip
      rename_i x ops ys pos
      split at h <;> first | (cases h; done) | skip
      rename_i heq
      cases heq
      simp only [Bool.and_eq_true, decide_eq_true_eq, Bool.not_eq_true'] at h
      obtain ⟨⟨⟨rfl, h1⟩, h2⟩, h3⟩ := h
      obtain ⟨r, w1, w2⟩ := cop_rule f.un o
      exact sb_cmp w1 w2 ((sound a c X f).o _ h1) ((sound b c X f).o _ h2) h3
  | .chain o o' a b d, c, X, f => .of' (f := fun c e => match e with | .Compare x [op, op'] [y, z] _ => decide (op = o.op) && decide (op' = o'.op) && (mt P a).e c x && (mt P b).e c y && (mt P d).e c z && !lastMarks [op, op'] [y, z] | _ => false) rfl rfl (fun ex h => by
      cases ex <;> first | (cases h; done) | skip
      rename_i x ops ys pos
      split at h <;> first | (cases h; done) | skip
      rename_i heq
      cases heq
      simp only [Bool.and_eq_true, decide_eq_true_eq, Bool.not_eq_true'] at h
      obtain ⟨⟨⟨⟨⟨rfl, rfl⟩, h1⟩, h2⟩, h4⟩, h3⟩ := h
      obtain ⟨r, w1, w2⟩ := cop_rule f.un o
      obtain ⟨r', w3, w4⟩ := cop_rule f.un o'
      exact se_chain w1 w3 w2 w4 ((sound a c X f).o _ h1) ((sound b c X f).o _ h2) ((sound d c X f).o _ h4) h3) fun _ ex h => by
      cases ex <;> first | (cases h; done) | skip
      rename_i x ops ys pos
      split at h <;> first | (cases h; done) | skip
      rename_i heq
      cases heq
      simp only [Bool.and_eq_true, decide_eq_true_eq, Bool.not_eq_true'] at h
      obtain ⟨⟨⟨⟨⟨rfl, rfl⟩, h1⟩, h2⟩, h4⟩, h3⟩ := h
      obtain ⟨r, w1, w2⟩ := cop_rule f.un o
      obtain ⟨r', w3, w4⟩ := cop_rule f.un o'
      exact sb_chain w1 w3 w2 w4 ((sound a c X f).o _ h1) ((sound b c X f).o _ h2) ((sound d c X f).o _ h4) h3
  | .and_ es, c, X, f => .of' (f := fun c e => match e with | .BoolOp .And xs _ => (mt P es).a c xs && !xs.isEmpty | _ => false) (tb := (mt P es).tb) rfl rfl (fun ex h => by
      cases ex <;> first | (cases h; done) | skip
      rename_i op xs pos
      cases op <;> first | (cases h; done) | skip
      have h' : ((mt P es).a c xs && !xs.isEmpty) = true := h
      rw [Bool.and_eq_true, Bool.not_eq_true'] at h'
      exact ((sound es c X f).ands xs pos h'.1 (by cases xs <;> simp at h' ⊢)).1) fun ht ex h => by
      cases ex <;> first | (cases h; done) | skip
      rename_i op xs pos
      cases op <;> first | (cases h; done) | skip
      have h' : ((mt P es).a c xs && !xs.isEmpty) = true := h
      rw [Bool.and_eq_true, Bool.not_eq_true'] at h'
      exact (((sound es c X f).ands xs pos h'.1 (by cases xs <;> simp at h' ⊢)).2 ht).sb
  | .or_ es, c, X, f => .of' (f := fun c e => match e with | .BoolOp .Or xs _ => (mt P es).a c xs && !xs.isEmpty | _ => false) (tb := (mt P es).tb) rfl rfl (fun ex h => by
      cases ex <;> first | (cases h; done) | skip
      rename_i op xs pos
      cases op <;> first | (cases h; done) | skip
      have h' : ((mt P es).a c xs && !xs.isEmpty) = true := h
      rw [Bool.and_eq_true, Bool.not_eq_true'] at h'
      exact ((sound es c X f).ors xs pos h'.1 (by cases xs <;> simp at h' ⊢)).1) fun ht ex h => by
      cases ex <;> first | (cases h; done) | skip
      rename_i op xs pos
      cases op <;> first | (cases h; done) | skip
      have h' : ((mt P es).a c xs && !xs.isEmpty) = true := h
      rw [Bool.and_eq_true, Bool.not_eq_true'] at h'
      exact (((sound es c X f).ors xs pos h'.1 (by cases xs <;> simp at h' ⊢)).2 ht).sb
  | .not_ a, c, X, f => .of' (f := fun c e => match e with | .UnaryOp .Not x _ => (mt P a).e c x | _ => false) (tb := (mt P a).tb) rfl rfl (fun ex h => by
      cases ex <;> first | (cases h; done) | skip
      rename_i op x pos
      cases op <;> first | (cases h; done) | skip
      exact se_not ((sound a c X f).e x h)) fun ht ex h => by
      cases ex <;> first | (cases h; done) | skip
      rename_i op x pos
      cases op <;> first | (cases h; done) | skip
      rw [not_test]
      exact sb_not ((sound a c X f).b ht x h)
  | .ifx t a b, c, X, f => .of' (f := fun c e => match e with | .IfExp z x y _ => (mt P t).e c z && (mt P t).tb && (mt P a).e c x && (mt P b).e c y | _ => false) (tb := false) rfl rfl (fun ex h => by
      cases ex <;> first | (cases h; done) | skip
      rename_i z x y pos
      have h' : ((mt P t).e c z && (mt P t).tb && (mt P a).e c x && (mt P b).e c y) = true := h
      simp only [Bool.and_eq_true] at h'
      obtain ⟨⟨⟨h1, h2⟩, h3⟩, h4⟩ := h'
      exact se_if ((sound t c X f).b h2 z h1) ((sound a c X f).e x h3) ((sound b c X f).e y h4)) fun ht => by cases ht
  | .ix a b, c, X, f => .of (f := fun c e => match e with | .Subscript x y _ => (mt P a).e c x && (mt P b).e c y && notSlice y | _ => false) rfl rfl fun ex h => by
    cases ex <;> first | (cases h; done) | skip
    rename_i x y pos
    have h' : ((mt P a).e c x && (mt P b).e c y && notSlice y) = true := h
    simp only [Bool.and_eq_true] at h'
    exact ⟨se_ix ((sound a c X f).o x h'.1.1) ((sound b c X f).o y h'.1.2) h'.2, rfl⟩
  | .slc a l hh, c, X, f => .of (f := fun c e => match e with
      | .Subscript x (.Slice lo hi none _) _ => (mt P a).e c x && (match lo with | none => isNil l | some y => !isNil l && (mt P l).e c y) && (match hi with | none => isNil hh | some y => !isNil hh && (mt P hh).e c y)
      | _ => false) rfl rfl fun ex h => by
    cases ex <;> first | (cases h; done) | skip
    rename_i x sl pos
    split at h <;> first | (cases h; done) | skip
    rename_i heq
    cases heq
    simp only [Bool.and_eq_true] at h
    obtain ⟨⟨h1, h2⟩, h3⟩ := h
    refine ⟨se_slice ((sound a c X f).o _ h1) ?_ ?_, rfl⟩
    · split at h2
      · unfold slcB
        rw [h2]
        exact sp_none
      · rw [Bool.and_eq_true, Bool.not_eq_true'] at h2
        unfold slcB
        rw [h2.1]
        exact sp_some ((sound l c X f).e _ h2.2)
    · split at h3
      · unfold slcB
        rw [h3]
        exact sp_none
      · rw [Bool.and_eq_true, Bool.not_eq_true'] at h3
        unfold slcB
        rw [h3.1]
        exact sp_some ((sound hh c X f).e _ h3.2)
  | .rev a, c, X, f => .of (f := fun c e => match e with | .Subscript x (.Slice none none (some (.UnaryOp .USub (.Constant (.int 1) _ _) _)) _) _ => (mt P a).e c x | _ => false) rfl rfl fun ex h => by
    cases ex <;> first | (cases h; done) | skip
    split at h <;> first | (cases h; done) | skip
    rename_i heq
    cases heq
    exact ⟨se_rev ((sound a c X f).o _ h), rfl⟩
  | .call g es, c, X, f => .of (f := fun c e => match e with | .Call (.Name x _) xs [] _ => (match P.fn g with | some i => decide (x = i.name) | none => false) && isGl c x && (mt P es).a c xs | _ => false) rfl rfl fun ex h => by
    cases ex <;> first | (cases h; done) | skip
    split at h <;> first | (cases h; done) | skip
    rename_i heq
    cases heq
    cases hg : P.fn g with
    | none => rw [hg] at h; cases h
    | some i =>
      rw [hg] at h
      simp only [Bool.and_eq_true, decide_eq_true_eq] at h
      obtain ⟨⟨rfl, h2⟩, h3⟩ := h
      obtain ⟨k1, k2⟩ := f.gl h2
      obtain ⟨j1, j2, j3, _⟩ := (sound es c X f).a _ h3
      have dn := f.defs g i hg
      refine ⟨?_, rfl⟩
      simp only
      cases ho : i.own with
      | true =>
        rw [ho] at dn
        exact (sn_call dn j1 k1 k2 j2 j3).se
      | false =>
        rw [ho] at dn
        exact se_call dn j1 k1 k2 j2 j3
  | .look g es, c, X, f => .of (f := fun c e => match e with | .Call (.Name x _) xs [] _ => (match P.fn g with | some i => decide (x = i.name) && decide (i.io = none) && !i.own | none => false) && isGl c x && (mt P es).a c xs | _ => false) rfl rfl fun ex h => by
    cases ex <;> first | (cases h; done) | skip
    split at h <;> first | (cases h; done) | skip
    rename_i heq
    cases heq
    cases hg : P.fn g with
    | none => rw [hg] at h; cases h
    | some i =>
      rw [hg] at h
      simp only [Bool.and_eq_true, decide_eq_true_eq, Bool.not_eq_true'] at h
      obtain ⟨⟨⟨⟨rfl, hio⟩, hown⟩, h2⟩, h3⟩ := h
      obtain ⟨k1, k2⟩ := f.gl h2
      obtain ⟨j1, j2, j3, _⟩ := (sound es c X f).a _ h3
      have dn := f.defs g i hg
      rw [hio, hown] at dn
      exact ⟨se_look dn j1 k1 k2 j2 j3, rfl⟩
  | .bi b es, c, X, f => .of (f := fun c e => match e with | .Call (.Name x _) xs [] _ => decide (x = b.ns) && isGl c x && (mt P es).a c xs && !xs.isEmpty | _ => false) rfl rfl fun ex h => by
    cases ex <;> first | (cases h; done) | skip
    split at h <;> first | (cases h; done) | skip
    rename_i heq
    cases heq
    rename_i xs _
    simp only [Bool.and_eq_true, decide_eq_true_eq, Bool.not_eq_true'] at h
    obtain ⟨⟨⟨rfl, h2⟩, h3⟩, h4⟩ := h
    obtain ⟨k1, k2⟩ := f.gl h2
    obtain ⟨j1, j2, j3, _⟩ := (sound es c X f).a _ h3
    exact ⟨se_bi f b j1 k1 j2 (by intro z; subst z; simp at h4), rfl⟩
  | .isi1 t a, c, X, f => .of (f := fun c e => match e with | .Call (.Name x _) [y, .Name z _] [] _ => decide (x = "isinstance") && isGl c x && decide (z = t.ns) && isGl c z && (mt P a).e c y && notStar y | _ => false) rfl rfl fun ex h => by
    cases ex <;> first | (cases h; done) | skip
    split at h <;> first | (cases h; done) | skip
    rename_i heq
    cases heq
    simp only [Bool.and_eq_true, decide_eq_true_eq] at h
    obtain ⟨⟨⟨⟨⟨rfl, h2⟩, rfl⟩, h4⟩, h5⟩, h6⟩ := h
    exact ⟨se_isi1 ((sound a c X f).o _ h5) h6 (f.gl h2).1 (f.blt _ (by simp [bltNames])) (f.gl h4).1 (f.blt _ (by cases t <;> simp [Ty5.ns, bltNames])), rfl⟩
  | .isi2 t u a, c, X, f => .of (f := fun c e => match e with | .Call (.Name x _) [y, .Tuple [.Name z _, .Name w _] _ _] [] _ => decide (x = "isinstance") && isGl c x && decide (z = t.ns) && isGl c z && decide (w = u.ns) && isGl c w && (mt P a).e c y && notStar y | _ => false) rfl rfl fun ex h => by
    cases ex <;> first | (cases h; done) | skip
    split at h <;> first | (cases h; done) | skip
    rename_i heq
    cases heq
    simp only [Bool.and_eq_true, decide_eq_true_eq] at h
    obtain ⟨⟨⟨⟨⟨⟨⟨rfl, h2⟩, rfl⟩, h4⟩, rfl⟩, h8⟩, h5⟩, h6⟩ := h
    exact ⟨se_isi2 ((sound a c X f).o _ h5) h6 (f.gl h2).1 (f.blt _ (by simp [bltNames])) (f.gl h4).1 (f.blt _ (by cases t <;> simp [Ty5.ns, bltNames])) (f.gl h8).1 (f.blt _ (by cases u <;> simp [Ty5.ns, bltNames])), rfl⟩
  | .lc t own elt iter cond, c, X, f => .of (f := fun c e => match e with
    | .ListComp x [⟨tg, it, ifs, asy⟩] scope _ => decide (asy = 0) && (mt P iter).s c it && notSet it && zipOk iter tg && mTgt (Tp.inner c scope) t tg && (t.slots.all fun i => decide (i ∈ own)) && blkC c.N c.sc scope (blkOwn c own) && (mt P elt).e (Tp.inner c scope) x &&
        (match ifs with | [] => isNil cond | [y] => !isNil cond && (mt P cond).e (Tp.inner c scope) y && (mt P cond).tb | _ => false)
    | _ => false) rfl rfl fun ex h => by
    cases ex <;> first | (cases h; done) | skip
    split at h <;> first | (cases h; done) | skip
    rename_i heq
    cases heq
    rename_i x tg it ifs asy scope pos
    simp only [Bool.and_eq_true, decide_eq_true_eq] at h
    obtain ⟨⟨⟨⟨⟨⟨⟨⟨rfl, h1⟩, h2⟩, hz⟩, h3⟩, h4⟩, h5⟩, h6⟩, h7⟩ := h
    refine ⟨(lc_sn f ((sound iter c X f).s _ _ hz h1) (fun s H C cl fp => (sound elt _ _ (f.inner s H C cl fp)).e _ h6) h2 h3 h4 h5 ?_).se, rfl⟩
    intro s H C cl fp
    split at h7
    · rw [h7]
      exact sc_nil
    · simp only [Bool.and_eq_true, Bool.not_eq_true'] at h7
      rw [h7.1.1]
      exact sc_one ((sound cond _ _ (f.inner s H C cl fp)).b h7.2 _ h7.1.2)
    · cases h7
  | .rng es, c, X, f => by
    refine ⟨fun ex h => (by cases h), fun ex h => (by cases h), fun _ ex h => (by cases h), fun es h => (by cases h), fun tg ex _ h => ?_, fun es pos h hn => (by cases h), fun es pos h hn => (by cases h)⟩
    cases ex <;> first | (cases h; done) | skip
    simp only [mt] at h
    split at h <;> first | (cases h; done) | skip
    rename_i heq
    cases heq
    simp only [Bool.and_eq_true, decide_eq_true_eq] at h
    obtain ⟨⟨⟨rfl, h2⟩, h3⟩, h4⟩ := h
    obtain ⟨j1, j2, j3, _⟩ := (sound es c X f).a _ h3
    have hm := f.blt "range" (by simp [bltNames])
    split at h4
    · have ha : arity es = 1 := by simpa using h4
      rw [List.all_cons, Bool.and_eq_true] at j2
      show SI T X tg _ (M.bind _ (rngA (arity es)))
      rw [ha]
      exact si_rng1 (f.gl h2).1 hm j1 j2.1
    · have ha : arity es = 2 := by simpa using h4
      rw [List.all_cons, Bool.and_eq_true, List.all_cons, Bool.and_eq_true] at j2
      show SI T X tg _ (M.bind _ (rngA (arity es)))
      rw [ha]
      exact si_rng2 (f.gl h2).1 hm j1 j2.1 j2.2.1
    · cases h4
  | .zip2 es, c, X, f => by
    refine ⟨fun ex h => (by cases h), fun ex h => (by cases h), fun _ ex h => (by cases h), fun es h => (by cases h), fun tg ex hz h => ?_, fun es pos h hn => (by cases h), fun es pos h hn => (by cases h)⟩
    cases ex <;> first | (cases h; done) | skip
    simp only [mt] at h
    split at h <;> first | (cases h; done) | skip
    rename_i heq
    cases heq
    simp only [Bool.and_eq_true, decide_eq_true_eq] at h
    obtain ⟨⟨⟨rfl, h2⟩, h3⟩, h4⟩ := h
    obtain ⟨j1, j2, j3, _⟩ := (sound es c X f).a _ h3
    have hm := f.blt "zip" (by simp [bltNames])
    split at h4
    · rw [List.all_cons, Bool.and_eq_true, List.all_cons, Bool.and_eq_true] at j2
      cases tg <;> first | (cases hz; done) | skip
      exact si_zip (f.gl h2).1 hm j1 j2.1 j2.2.1
    · cases h4
  | .srt a, c, X, f => .of (f := fun c e => match e with | .Call (.Name x _) [.Call (.Name y _) [z] [] _] [] _ => decide (x = "sorted") && isGl c x && decide (y = "set") && isGl c y && notStar z && (mt P a).e c z | _ => false) rfl rfl fun ex h => by
    cases ex <;> first | (cases h; done) | skip
    split at h <;> first | (cases h; done) | skip
    rename_i heq
    cases heq
    simp only [Bool.and_eq_true, decide_eq_true_eq] at h
    obtain ⟨⟨⟨⟨⟨rfl, h2⟩, rfl⟩, h4⟩, h5⟩, h6⟩ := h
    exact ⟨se_srt (f.gl h2).1 (f.blt _ (by simp [bltNames])) (f.gl h4).1 (f.blt _ (by simp [bltNames])) f.calm h5 ((sound a c X f).o _ h6), rfl⟩
end
end Tp
/-! Tp16: the forms of statements. -/
namespace Tp
open PySem PySem.Spec PyProof.Rows L2
inductive IS where
  | nil
  | cons (s b : IS)
  | pass
  | brk
  | cont
  | never
  | ret (e : IE)
  | ret0
  | expr (e : IE)
  | ite (c : IE) (a b : IS)
  | asg (t : Tgt) (e : IE)
  | asgO (i : Nat) (e : IE)
  | par2 (o1 o2 : Bool) (i j : Nat) (a b : IE)
  | par3 (o1 o2 o3 : Bool) (i j l : Nat) (a b d : IE)
  | aug (sub : Bool) (i : Nat) (e : IE)
  | app (i : Nat) (e : IE)
  | set (i : Nat) (k e : IE)
  | for_ (t : Tgt) (iter : IE) (body : IS) (kill : List Nat)
  | while_ (c : IE) (body : IS) (kill : List Nat) (fuel : Nat)
def augF (sub : Bool) (i j : Int) : Int := if sub then i - j else i + j
/-- an expression whose value is a new object -/
def newable (P : PgI) : IE → Bool
  | .lst _ => true
  | .lc .. => true
  | .lc2 .. => true
  | .cat .. => true
  | .call g _ => (match P.fn g with | some i => i.own | none => false)
  | _ => false
section
variable (P : PgI) (cf : Nat → List D → FRes) (own : Bool)
def denS : IS → SM
  | .nil => nextM
  | .cons s b => seqM (denS s) (denS b)
  | .pass => nextM
  | .brk => .bk
  | .cont => .ct
  | .never => fun _ => .stuck
  | .ret e => onV (den P cf e).e .rt
  | .ret0 => .rt .none
  | .expr e => onV (den P cf e).e fun _ => .nx
  | .ite c a b => onB (den P cf c).b fun k => if k then denS a else denS b
  | .asg t e => onV (den P cf e).e fun d e => liftE (t.bind d e)
  | .asgO i e => onV (den P cf e).e fun d e => liftE (setO e i d)
  | .par2 o1 o2 i j a b => Tp.par2 o1 o2 i j (den P cf a).e (den P cf b).e
  | .par3 o1 o2 o3 i j l a b d => Tp.par3 o1 o2 o3 i j l (den P cf a).e (den P cf b).e (den P cf d).e
  | .aug sub i e => augM (augF sub) i (den P cf e).e
  | .app i e => appM i (den P cf e).e
  | .set i k e => setM i (den P cf k).e (den P cf e).e
  | .for_ t iter body kill => forM' (den P cf iter).s t (denS body) kill
  | .while_ c body kill fuel => whileLoop (den P cf c).b (denS body) kill fuel
structure MtS where
  s : MC → Stmt → Bool
  l : MC → List Stmt → Bool
def MtS.of (f : MC → Stmt → Bool) : MtS := ⟨f, fun _ _ => false⟩
def isLoc (c : MC) (i : Nat) (x : Str) : Bool := decide (c.N[i]? = some x) && (match c.sc.names.lookup x with | some .local => true | _ => false)
/-- a comprehension that is stored by its own name -/
def swapC (c : MC) (x : Str) (px : Pos) (ln : Nat) (e : Expr) : Bool := match e with
  | .ListComp _ _ sc pos => decide (px.line = pos.line) && !(sc.names.any fun p => p.1 == x && (p.2 == .local || p.2 == .cell)) && (match c.sc.names.lookup x with | some .local => true | _ => false)
  | _ => false
def noSwap (tg e : Expr) : Bool := !isTup e || !isTup tg
/-- a tuple of targets that does not go the short way -/
def swNone (c : MC) (tg e : Expr) : Bool := match tg, e with
  | .Tuple ts _ _, .Tuple vs _ _ => (ts.filterMap fun t => match t with | .Name id pos => if c.sc.names.lookup id == some .local && pos.line == (ts.head?.map (·.pos.line)).getD 0 then some id else none | _ => none).length != ts.length
  | _, _ => false
def foldSw (tg e : Expr) : Bool := match tg, e with
  | .Tuple ts _ _, .Tuple vs _ _ => vs.all (foldedForSure 8) && ts.all fun t => match t with | .Name .. => true | _ => false
  | _, _ => false
/-- no swap of what is stored -/
def noSwp (c : MC) (tg e : Expr) : Bool := notComp e || (match tg with | .Name x _ => (match c.sc.names.lookup x with | some .local => false | _ => true) | _ => true)
def isLc2 : IE → Bool
  | .lc2 .. => true
  | _ => false
def isLc : IE → Bool
  | .lc .. => true
  | _ => false
def voC (o : Bool) (ie : IE) : Bool := !o || newable P ie
def mtS : IS → MtS
  | .nil => ⟨fun _ _ => false, fun _ l => l.isEmpty⟩
  | .cons s b => ⟨fun _ _ => false, fun c l => match l with | st :: l => (mtS s).s c st && (mtS b).l c l | [] => false⟩
  | .pass => .of fun _ st => match st with | .Pass _ => true | _ => false
  | .brk => .of fun _ st => match st with | .Break _ => true | _ => false
  | .cont => .of fun _ st => match st with | .Continue _ => true | _ => false
  | .never => .of fun _ _ => true
  | .ret e => .of fun c st => match st with | .Return (some x) _ => (mt P e).e c x && voC P own e | _ => false
  | .ret0 => .of fun _ st => match st with | .Return none _ => !own | _ => false
  | .expr e => .of fun c st => match st with | .Expr x _ => (mt P e).e c x && notComp x | _ => false
  | .ite t a b => .of fun c st => match st with | .If x sa sb _ => (mt P t).e c x && (mt P t).tb && (mtS a).l c sa && (mtS b).l c sb | _ => false
  | .asg t e => .of fun c st => match st with
    | .Assign [tg] x pos => mTgt c t tg && notStar tg && (mt P e).e c x && ((noSwp c tg x && (noSwap tg x || swNone c tg x)) || (match t, tg with | .one i, .Name y py => (isLc e || isLc2 e) && isLoc c i y && swapC c y py pos.line x | _, _ => false))
    | _ => false
  | .asgO i e => .of fun c st => match st with
    | .Assign [.Name y py] x pos => newable P e && (mt P e).e c x && ((isTgt c i y && noSwp c (.Name y py) x) || ((isLc e || isLc2 e) && isLoc c i y && swapC c y py pos.line x))
    | _ => false
  | .par2 o1 o2 i j a b => .of fun c st => match st with
    | .Assign [.Tuple [.Name x px, .Name y py] _ _] (.Tuple [xa, xb] _ _) _ => isLoc c i x && isLoc c j y && decide (i ≠ j) && decide (x ≠ y) && decide (px.line = py.line) && notStar xa && notStar xb && (mt P a).e c xa && (mt P b).e c xb && voC P o1 a && voC P o2 b &&
        !(foldedForSure 8 xa && foldedForSure 8 xb) && !(constantsAlone 8 xa && constantsAlone 8 xb)
    | _ => false
  | .par3 o1 o2 o3 i j l a b d => .of fun c st => match st with
    | .Assign [.Tuple [.Name x px, .Name y py, .Name z pz] _ _] (.Tuple [xa, xb, xc] _ _) _ => isLoc c i x && isLoc c j y && isLoc c l z && decide (i ≠ j) && decide (i ≠ l) && decide (j ≠ l) && decide (x ≠ y) && decide (x ≠ z) && decide (y ≠ z) && decide (px.line = py.line) && decide (px.line = pz.line) && notStar xa && notStar xb && notStar xc && (mt P a).e c xa && (mt P b).e c xb && (mt P d).e c xc && voC P o1 a && voC P o2 b && voC P o3 d &&
        !(foldedForSure 8 xa && (foldedForSure 8 xb && foldedForSure 8 xc)) && !(constantsAlone 8 xa && (constantsAlone 8 xb && constantsAlone 8 xc))
    | _ => false
  | .aug sub i e => .of fun c st => match st with
    | .AugAssign (.Name y _) op x _ => decide (op = (if sub then .Sub else .Add)) && isTgt c i y && (mt P e).e c x
    | _ => false
  | .app i e => .of fun c st => match st with
    | .Expr (.Call (.Attribute (.Name y _) at_ apos) [x] [] cpos) _ => decide (at_ = "append") && isVar c i y && (apos.endLine == cpos.line) && notStar x && (mt P e).e c x
    | _ => false
  | .set i k e => .of fun c st => match st with
    | .Assign [.Subscript (.Name y _) kx _] x _ => isVar c i y && (mt P k).e c kx && (mt P e).e c x && notComp x && notSlice kx
    | _ => false
  | .for_ t iter body kill => .of fun c st => match st with
    | .For tg it bd [] _ => mTgt c t tg && (mt P iter).s c it && notSet it && zipOk iter tg && (mtS body).l c bd
    | _ => false
  | .while_ t body kill fuel => .of fun c st => match st with
    | .While x bd [] _ => (mt P t).e c x && (mt P t).tb && (mtS body).l c bd
    | _ => false
end
structure FitsS (T : ExcT) (P : PgI) (cf : Nat → List D → FRes) (c : MC) (X : Cx) : Prop extends Fits T P cf c X where
  po : PassesOwn (model X.prog X.w) X.A X.env X.xe
  kind : X.env.scope.kind = .function
section
variable {T : ExcT} {P : PgI} {cf : Nat → List D → FRes} {own : Bool} {c : MC} {X : Cx}
theorem Fits.loc (f : Fits T P cf c X) {i : Nat} {x : Str} (h : isLoc c i x = true) : X.N[i]? = some x ∧ X.env.scope.names.lookup x = some .local := by
  unfold isLoc at h
  simp only [Bool.and_eq_true, decide_eq_true_eq] at h
  obtain ⟨h1, h2⟩ := h
  refine ⟨by rw [f.N]; exact h1, ?_⟩
  rw [f.sc]
  split at h2
  · assumption
  · cases h2
theorem FitsS.block (f : FitsS T P cf c X) : X.env.blockKind = .function := by
  unfold PySem.Env.blockKind
  rw [f.kind]
  rfl
theorem FitsS.swap (f : FitsS T P cf c X) {x : Str} {px : Pos} {ln : Nat} {ex : Expr} (h : swapC c x px ln ex = true) : swapsWith ex (some (.Name x px)) ln X.env = pure true := by
  cases ex <;> first | (cases h; done) | skip
  rename_i elt gens scope pos
  unfold swapC at h
  simp only [Bool.and_eq_true, decide_eq_true_eq] at h
  obtain ⟨⟨h1, h2⟩, h3⟩ := h
  have hk : X.env.kindOf x = some .local := by
    show X.env.scope.names.lookup x = _
    rw [f.sc]
    split at h3
    · assumption
    · cases h3
  show (pure (X.env.blockKind == .function && X.env.kindOf x == some .local && px.line == pos.line && !(scope.names.any fun p => p.1 == x && (p.2 == .local || p.2 == .cell))) : Sem Bool) = pure true
  rw [f.block, hk, h1, h2]
  simp
theorem FitsS.noSwp (f : FitsS T P cf c X) {tg ex : Expr} {ln : Nat} (h : noSwp c tg ex = true) : swapsWith ex (some tg) ln X.env = pure false := by
  unfold Tp.noSwp at h
  rw [Bool.or_eq_true] at h
  rcases h with h | h
  · exact swaps_not h
  cases tg with
  | Name x px =>
    have hk : X.env.kindOf x = c.sc.names.lookup x := by
      show X.env.scope.names.lookup x = _
      rw [f.sc]
    have hb : (X.env.kindOf x == some .local) = false := by
      rw [hk]
      simp only at h
      split at h
      · cases h
      · rename_i hn
        simpa using hn
    cases ex <;> first | rfl | skip
    all_goals (unfold swapsWith; simp [hb])
  | _ => cases ex <;> rfl
theorem FitsS.stores2 (f : FitsS T P cf c X) {x y : Str} {px py pt pt2 : Pos} {kt k2 : _} {a b : Expr} (hx : X.env.scope.names.lookup x = some .local) (hy : X.env.scope.names.lookup y = some .local) (hl : px.line = py.line) (hxy : x ≠ y) (na : notStar a = true) (nb : notStar b = true)
    (h1 : (foldedForSure 8 a && foldedForSure 8 b) = false) (h2 : (constantsAlone 8 a && constantsAlone 8 b) = false) : swappedStores [.Tuple [.Name x px, .Name y py] kt pt] (.Tuple [a, b] k2 pt2) X.env = pure (some [x, y]) := by
  have kx : X.env.kindOf x = some .local := hx
  have ky : X.env.kindOf y = some .local := hy
  have hd : [x, y].eraseDups = [x, y] := by
    have : (y == x) = false := by simpa using Ne.symm hxy
    simp [List.eraseDups_cons, this]
  have hs : ∀ e, notStar e = true → (match e with | .Starred .. => true | _ => false) = false := fun e h => by cases e <;> first | rfl | cases h
  unfold swappedStores
  simp [f.block, kx, ky, hl, hd, h1, h2]
  rw [if_neg (fun z => z.elim (fun z => Bool.false_ne_true ((hs a na).symm.trans z)) (fun z => Bool.false_ne_true ((hs b nb).symm.trans z)))]
  have hp : ∀ n p, (Expr.Name n p).pos = p := fun _ _ => rfl
  simp [hp, List.filterMap_cons, kx, ky, hl, hd]
theorem FitsS.stores3 (f : FitsS T P cf c X) {x y z : Str} {px py pz pt pt2 : Pos} {kt k2 : _} {a b d : Expr} (hx : X.env.scope.names.lookup x = some .local) (hy : X.env.scope.names.lookup y = some .local) (hz : X.env.scope.names.lookup z = some .local) (hl : px.line = py.line) (hl2 : px.line = pz.line) (hxy : x ≠ y) (hxz : x ≠ z) (hyz : y ≠ z) (na : notStar a = true) (nb : notStar b = true) (nd : notStar d = true)
    (h1 : (foldedForSure 8 a && (foldedForSure 8 b && foldedForSure 8 d)) = false) (h2 : (constantsAlone 8 a && (constantsAlone 8 b && constantsAlone 8 d)) = false) : swappedStores [.Tuple [.Name x px, .Name y py, .Name z pz] kt pt] (.Tuple [a, b, d] k2 pt2) X.env = pure (some [x, y, z]) := by
  have kx : X.env.kindOf x = some .local := hx
  have ky : X.env.kindOf y = some .local := hy
  have kz : X.env.kindOf z = some .local := hz
  have hd : [x, y, z].eraseDups = [x, y, z] := by
    have e1 : (y == x) = false := by simpa using Ne.symm hxy
    have e2 : (z == x) = false := by simpa using Ne.symm hxz
    have e3 : (z == y) = false := by simpa using Ne.symm hyz
    simp [List.eraseDups_cons, e1, e2, e3]
  have hs : ∀ e, notStar e = true → (match e with | .Starred .. => true | _ => false) = false := fun e h => by cases e <;> first | rfl | cases h
  unfold swappedStores
  have hp : ∀ n p, (Expr.Name n p).pos = p := fun _ _ => rfl
  simp [f.block, kx, ky, kz, hl, hl2, hd, h1, h2]
  rw [if_neg (fun z => by
    rcases z with z | z | z
    · exact Bool.false_ne_true ((hs a na).symm.trans z)
    · exact Bool.false_ne_true ((hs b nb).symm.trans z)
    · exact Bool.false_ne_true ((hs d nd).symm.trans z))]
  have hl3 : py.line = pz.line := hl.symm.trans hl2
  simp [hp, List.filterMap_cons, kx, ky, kz, hl, hl2, hl3, hd]
theorem ite_none {α : Type} {q : Prop} [Decidable q] {x y : α} (h : ¬q → x = y) : (if q then y else x) = y := by
  by_cases z : q
  · rw [if_pos z]
  · rw [if_neg z, h z]
theorem FitsS.off (f : FitsS T P cf c X) {tg ex : Expr} (h : swNone c tg ex = true) : swappedStores [tg] ex X.env = pure none := by
  unfold swNone at h
  split at h
  · rename_i ts k p vs k2 p2
    have e : ∀ id, X.env.kindOf id = c.sc.names.lookup id := fun id => by
      show X.env.scope.names.lookup id = _
      rw [f.sc]
    unfold swappedStores
    simp only [e]
    simp only [bne_iff_ne, ne_eq] at h
    refine ite_none fun _ => ite_none fun _ => ?_
    refine if_pos ?_
    simp only [bne_iff_ne, ne_eq, Bool.or_eq_true]
    exact .inl h
  · cases h
theorem FitsS.fold (f : FitsS T P cf c X) {tg ex : Expr} (h : noSwap tg ex = true) : swappedStores [tg] ex X.env = pure none := stores_not (by
  unfold noSwap at h
  cases z : isTup ex with
  | false => exact .inl rfl
  | true =>
    rw [z] at h
    exact .inr (by simpa using h))
theorem sn_new {ie : IE} (f : Fits T P cf c X) (hn : newable P ie = true) : ∀ ex, (mt P ie).e c ex = true → SN T X ex (den P cf ie).e := fun ex h => by
  cases ie <;> first | (cases hn; done) | skip
  case lst es =>
    cases ex <;> first | (cases h; done) | skip
    exact sn_lst ((sound es c X f).a _ h).1
  case cat a b =>
    cases ex <;> first | (cases h; done) | skip
    rename_i x op y pos
    cases op <;> first | (cases h; done) | skip
    have h' : ((mt P a).e c x && (mt P b).e c y) = true := h
    rw [Bool.and_eq_true] at h'
    exact sn_cat ((sound a c X f).o x h'.1) ((sound b c X f).o y h'.2)
  case call g es =>
    cases ex <;> first | (cases h; done) | skip
    simp only [mt, Mt.of] at h
    split at h <;> first | (cases h; done) | skip
    rename_i heq
    cases heq
    cases hg : P.fn g with
    | none => rw [hg] at h; cases h
    | some i =>
      rw [hg] at h
      simp only [newable, hg] at hn
      simp only [Bool.and_eq_true, decide_eq_true_eq] at h
      obtain ⟨⟨rfl, h2⟩, h3⟩ := h
      obtain ⟨k1, k2⟩ := f.gl h2
      obtain ⟨j1, j2, j3, _⟩ := (sound es c X f).a _ h3
      have dn := f.defs g i hg
      rw [hn] at dn
      simp only [den, hg, Den.of]
      exact sn_call dn j1 k1 k2 j2 j3
  case lc2 t own elt iter cond t1 own1 iter1 cond1 =>
    exact lc2_sn f (fun tg it hz h1 => (sound iter c X f).s _ _ hz h1) (fun c X f tg it hz h1 => (sound iter1 c X f).s _ _ hz h1) (fun c X f ex h => (sound elt c X f).e ex h) (fun c X f tb ex h => (sound cond c X f).b tb ex h) (fun c X f tb ex h => (sound cond1 c X f).b tb ex h) h
  case lc t own elt iter cond =>
    cases ex <;> first | (cases h; done) | skip
    simp only [mt, Mt.of] at h
    split at h <;> first | (cases h; done) | skip
    rename_i heq
    cases heq
    simp only [Bool.and_eq_true, decide_eq_true_eq] at h
    obtain ⟨⟨⟨⟨⟨⟨⟨⟨rfl, h1⟩, h2⟩, hz⟩, h3⟩, h4⟩, h5⟩, h6⟩, h7⟩ := h
    refine lc_sn f ((sound iter c X f).s _ _ hz h1) (fun s H C cl fp => (sound elt _ _ (f.inner s H C cl fp)).e _ h6) h2 h3 h4 h5 ?_
    intro s H C cl fp
    split at h7
    · rw [h7]
      exact sc_nil
    · simp only [Bool.and_eq_true, Bool.not_eq_true'] at h7
      rw [h7.1.1]
      exact sc_one ((sound cond _ _ (f.inner s H C cl fp)).b h7.2 _ h7.1.2)
    · cases h7
theorem svo_of {ie : IE} (f : Fits T P cf c X) {o : Bool} (h : voC P o ie = true) {ex : Expr} (he : (mt P ie).e c ex = true) : SVO T X o ex (den P cf ie).e := by
  unfold SVO
  cases o with
  | false => exact (sound ie c X f).e ex he
  | true => exact sn_new f (by simpa [voC] using h) ex he
end
end Tp
/-! Tp17: the theorem over all forms of statements. -/
namespace Tp
open PySem PySem.Spec PyProof.Rows L2
section
variable {T : ExcT} {P : PgI} {cf : Nat → List D → FRes} {own : Bool} {c : MC} {X : Cx}
theorem lc_open (f : Fits T P cf c X) {t : Tgt} {cown : List Nat} {elt iter cond : IE} {ex : Expr} (h : (mt P (.lc t cown elt iter cond)).e c ex = true) :
    ∃ x tg it ifs scope pos, ex = .ListComp x [⟨tg, it, ifs, 0⟩] scope pos ∧ SI T X tg it (if pureIE P elt && pureIE P cond then (den P cf iter).s else noOwn (den P cf iter).s) ∧
      BlkS T X scope x tg ifs t (if isNil cond then M.pure true else (den P cf cond).b) (den P cf elt).e ∧ BlkOk X.N X.env.scope scope (blkOwn c cown) ∧ (∀ i ∈ t.slots, i ∈ (blkOwn c cown).map (·.2)) ∧
      SrcM (if pureIE P elt && pureIE P cond then (den P cf iter).s else noOwn (den P cf iter).s) ∧ (NoOwn (if pureIE P elt && pureIE P cond then (den P cf iter).s else noOwn (den P cf iter).s) ∨ (PureM (if isNil cond then M.pure true else (den P cf cond).b) ∧ PureM (den P cf elt).e)) ∧ notSet it = true := by
  cases ex <;> first | (cases h; done) | skip
  simp only [mt, Mt.of] at h
  split at h <;> first | (cases h; done) | skip
  rename_i heq
  cases heq
  simp only [Bool.and_eq_true, decide_eq_true_eq] at h
  obtain ⟨⟨⟨⟨⟨⟨⟨⟨rfl, h1⟩, h2⟩, hz⟩, h3⟩, h4⟩, h5⟩, h6⟩, h7⟩ := h
  have hi := (sound iter c X f).s _ _ hz h1
  refine ⟨_, _, _, _, _, _, rfl, ?_, ⟨fun s H C cl fp => (f.inner s H C cl fp).target h3, fun s H C cl fp => ?_, fun s H C cl fp => (sound elt _ _ (f.inner s H C cl fp)).e _ h6⟩, ?_, ?_, ?_, ?_, h2⟩
  · split
    · exact hi
    · exact hi.noOwn
  · split at h7
    · rw [h7]
      exact sc_nil
    · simp only [Bool.and_eq_true, Bool.not_eq_true'] at h7
      rw [h7.1.1]
      exact sc_one ((sound cond _ _ (f.inner s H C cl fp)).b h7.2 _ h7.1.2)
    · cases h7
  · rw [f.N, f.sc]
    exact blkOk_by h5
  · rw [blkOwn_snd]
    intro i hi
    exact of_decide_eq_true (List.all_eq_true.mp h4 i hi)
  · split
    · exact srcM iter
    · exact srcM_noOwn (srcM iter)
  · split
    · rename_i h
      rw [Bool.and_eq_true] at h
      exact .inr ⟨PureM.ite (PureM.pure _) (pureD cond h.2).b, (pureD elt h.1).e⟩
    · exact .inl noOwn_no
structure OkS (T : ExcT) (P : PgI) (cf : Nat → List D → FRes) (own : Bool) (c : MC) (X : Cx) (is : IS) : Prop where
  s : ∀ st, (mtS P own is).s c st = true → SS T X own st (denS P cf is)
  l : ∀ st, (mtS P own is).l c st = true → SSs T X own st (denS P cf is)
theorem OkS.of {is : IS} {g : MC → Stmt → Bool} (hm : mtS P own is = MtS.of g) (h : ∀ st, g c st = true → SS T X own st (denS P cf is)) : OkS T P cf own c X is where
  s := fun st q => by rw [hm] at q; exact h st q
  l := fun st q => by rw [hm] at q; cases q
theorem soundS : ∀ (is : IS) (X : Cx), FitsS T P cf c X → OkS T P cf own c X is
  | .nil, X, f => ⟨fun st h => (by cases h), fun st h => (by cases st <;> first | exact sss_nil | cases h)⟩
  | .cons s b, X, f => by
      refine ⟨fun st h => (by cases h), fun st h => ?_⟩
      cases st with
      | nil => cases h
      | cons a r =>
        have h' : ((mtS P own s).s c a && (mtS P own b).l c r) = true := h
        rw [Bool.and_eq_true] at h'
        exact sss_cons ((soundS s X f).s a h'.1) ((soundS b X f).l r h'.2)
  | .pass, X, f => .of rfl fun st h => by cases st <;> first | (cases h; done) | exact ss_pass
  | .brk, X, f => .of rfl fun st h => by cases st <;> first | (cases h; done) | exact ss_break
  | .cont, X, f => .of rfl fun st h => by cases st <;> first | (cases h; done) | exact ss_cont
  | .never, X, f => .of rfl fun st h => ss_never
  | .ret e, X, f => .of rfl fun st h => by
      cases st <;> first | (cases h; done) | skip
      split at h <;> first | (cases h; done) | skip
      rename_i heq
      cases heq
      rw [Bool.and_eq_true] at h
      have q := svo_of f.toFits h.2 h.1
      cases own with
      | false => exact ss_ret q
      | true => exact ss_retN q
  | .ret0, X, f => .of rfl fun st h => by
      cases st <;> first | (cases h; done) | skip
      split at h <;> first | (cases h; done) | skip
      rename_i heq
      cases heq
      cases own with
      | false => exact ss_ret0
      | true => cases h
  | .expr e, X, f => .of rfl fun st h => by
      cases st <;> first | (cases h; done) | skip
      simp only [Bool.and_eq_true] at h
      exact ss_expr ((sound e c X f.toFits).e _ h.1) h.2
  | .ite t a b, X, f => .of rfl fun st h => by
      cases st <;> first | (cases h; done) | skip
      simp only [Bool.and_eq_true] at h
      exact ss_if ((sound t c X f.toFits).b h.1.1.2 _ h.1.1.1) ((soundS a X f).l _ h.1.2) ((soundS b X f).l _ h.2)
  | .asg t e, X, f => .of rfl fun st h => by
      cases st <;> first | (cases h; done) | skip
      split at h <;> first | (cases h; done) | skip
      rename_i heq
      cases heq
      rename_i tg x pos
      rw [Bool.and_eq_true, Bool.and_eq_true, Bool.and_eq_true, Bool.or_eq_true, Bool.and_eq_true] at h
      obtain ⟨⟨⟨h1, h2⟩, h3⟩, ⟨h4, h5⟩ | h4⟩ := h
      · rw [Bool.or_eq_true] at h5
        exact ss_asg ((sound e c X f.toFits).e _ h3) (f.toFits.target h1) (f.noSwp h4) h2 (h5.elim f.fold f.off)
      · split at h4 <;> first | (cases h4; done) | skip
        rename_i i y py
        simp only [Bool.and_eq_true, Bool.or_eq_true] at h4
        obtain ⟨⟨h5, h6⟩, h7⟩ := h4
        cases e <;> first | (simp [isLc, isLc2] at h5; done) | skip
        case lc2 t cown elt iter cond t1 cown1 iter1 cond1 =>
          obtain ⟨x, tg, it, ifs, tg1, it1, ifs1, scope, cpos, rfl, k1, k2, k3, k4, k5, k6, k7, k8, k9, k10⟩ := lc2_open f.toFits (fun tg it hz h1 => (sound iter c X f.toFits).s _ _ hz h1) (fun c X f tg it hz h1 => (sound iter1 c X f).s _ _ hz h1) (fun c X f ex h => (sound elt c X f).e ex h) (fun c X f tb ex h => (sound cond c X f).b tb ex h) (fun c X f tb ex h => (sound cond1 c X f).b tb ex h) h3
          obtain ⟨j1, j2⟩ := f.toFits.loc h6
          have := ss_lc2 (own := own) f.calm f.nd j1 j2 (f.swap h7) k1 k2 k3 k4 k5 k6 k7 k8 noOwn_no noOwn_no k9 k10
          rw [blkOwn_snd] at this
          exact this
        rename_i t cown elt iter cond
        obtain ⟨x, tgc, it, ifs, scope, cpos, rfl, k1, k2, k3, k4, k5, k6, k7⟩ := lc_open f.toFits h3
        obtain ⟨j1, j2⟩ := f.toFits.loc h6
        have := ss_lc (own := own) f.calm f.nd j1 j2 (f.swap h7) k1 k2 k3 k4 k5 k6 k7
        rw [blkOwn_snd] at this
        exact this
  | .asgO i e, X, f => .of rfl fun st h => by
      cases st <;> first | (cases h; done) | skip
      split at h <;> first | (cases h; done) | skip
      rename_i heq
      cases heq
      rename_i y py x pos
      simp only [Bool.and_eq_true, Bool.or_eq_true] at h
      obtain ⟨⟨h1, h2⟩, ⟨h3, h4⟩ | ⟨⟨h3, h4⟩, h5⟩⟩ := h
      · obtain ⟨k1, k2, k3⟩ := f.toFits.tgt h3
        exact ss_asgO (sn_new f.toFits h1 _ h2) f.nd k1 k2 k3 (f.noSwp h4)
      · cases e <;> first | (simp [isLc, isLc2] at h3; done) | skip
        case lc2 t cown elt iter cond t1 cown1 iter1 cond1 =>
          obtain ⟨x, tg, it, ifs, tg1, it1, ifs1, scope, cpos, rfl, k1, k2, k3, k4, k5, k6, k7, k8, k9, k10⟩ := lc2_open f.toFits (fun tg it hz h1 => (sound iter c X f.toFits).s _ _ hz h1) (fun c X f tg it hz h1 => (sound iter1 c X f).s _ _ hz h1) (fun c X f ex h => (sound elt c X f).e ex h) (fun c X f tb ex h => (sound cond c X f).b tb ex h) (fun c X f tb ex h => (sound cond1 c X f).b tb ex h) h2
          obtain ⟨j1, j2⟩ := f.toFits.loc h4
          have := ss_lc2O (own := own) f.calm f.nd j1 j2 (f.swap h5) k1 k2 k3 k4 k5 k6 k7 k8 noOwn_no noOwn_no k9 k10
          rw [blkOwn_snd] at this
          exact this
        rename_i t cown elt iter cond
        obtain ⟨x, tgc, it, ifs, scope, cpos, rfl, k1, k2, k3, k4, k5, k6, k7⟩ := lc_open f.toFits h2
        obtain ⟨j1, j2⟩ := f.toFits.loc h4
        have := ss_lcO (own := own) f.calm f.nd j1 j2 (f.swap h5) k1 k2 k3 k4 k5 k6 k7
        rw [blkOwn_snd] at this
        exact this
  | .par2 o1 o2 i j a b, X, f => .of rfl fun st h => by
      cases st <;> first | (cases h; done) | skip
      split at h <;> first | (cases h; done) | skip
      rename_i heq
      cases heq
      simp only [Bool.and_eq_true, decide_eq_true_eq, Bool.not_eq_true'] at h
      obtain ⟨⟨⟨⟨⟨⟨⟨⟨⟨⟨⟨⟨h1, h2⟩, h3⟩, h4⟩, h5⟩, h6⟩, h7⟩, h8⟩, h9⟩, h10⟩, h11⟩, h12⟩, h13⟩ := h
      obtain ⟨k1, k2⟩ := f.toFits.loc h1
      obtain ⟨k3, k4⟩ := f.toFits.loc h2
      exact ss_par2 (svo_of f.toFits h10 h8) (svo_of f.toFits h11 h9) f.calm f.nd k1 k3 h3 k2 k4 h6 h7 (f.stores2 k2 k4 h5 h4 h6 h7 h12 h13)
  | .par3 o1 o2 o3 i j l a b d, X, f => .of rfl fun st h => by
      cases st <;> first | (cases h; done) | skip
      split at h <;> first | (cases h; done) | skip
      rename_i heq
      cases heq
      simp only [Bool.and_eq_true, decide_eq_true_eq, Bool.not_eq_true'] at h
      obtain ⟨⟨⟨⟨⟨⟨⟨⟨⟨⟨⟨⟨⟨⟨⟨⟨⟨⟨⟨⟨⟨h1, h2⟩, h3⟩, n1⟩, n2⟩, n3⟩, n4⟩, n5⟩, n6⟩, n7⟩, n8⟩, s1⟩, s2⟩, s3⟩, m1⟩, m2⟩, m3⟩, v1⟩, v2⟩, v3⟩, c1⟩, c2⟩ := h
      obtain ⟨k1, k2⟩ := f.toFits.loc h1
      obtain ⟨k3, k4⟩ := f.toFits.loc h2
      obtain ⟨k5, k6⟩ := f.toFits.loc h3
      exact ss_par3 (svo_of f.toFits v1 m1) (svo_of f.toFits v2 m2) (svo_of f.toFits v3 m3) f.calm f.nd k1 k3 k5 n1 n2 n3 k2 k4 k6 s1 s2 s3 (f.stores3 k2 k4 k6 n7 n8 n4 n5 n6 s1 s2 s3 c1 c2)
  | .aug sub i e, X, f => .of rfl fun st h => by
      cases st <;> first | (cases h; done) | skip
      split at h <;> first | (cases h; done) | skip
      rename_i heq
      cases heq
      simp only [Bool.and_eq_true, decide_eq_true_eq] at h
      obtain ⟨⟨rfl, h2⟩, h3⟩ := h
      obtain ⟨k1, k2, k3⟩ := f.toFits.tgt h2
      cases sub with
      | false => exact ss_aug ip_add ((sound e c X f.toFits).e _ h3) f.nd k1 k2 k3
      | true => exact ss_aug ip_sub ((sound e c X f.toFits).e _ h3) f.nd k1 k2 k3
  | .app i e, X, f => .of rfl fun st h => by
      cases st <;> first | (cases h; done) | skip
      split at h <;> first | (cases h; done) | skip
      rename_i heq
      cases heq
      simp only [Bool.and_eq_true, decide_eq_true_eq] at h
      obtain ⟨⟨⟨⟨rfl, h2⟩, h3⟩, h4⟩, h5⟩ := h
      obtain ⟨k1, k2, k3, k4⟩ := f.toFits.var h2
      exact ss_append ((sound e c X f.toFits).e _ h5) k1 k2 k3 k4 h3 h4
  | .set i k e, X, f => .of rfl fun st h => by
      cases st <;> first | (cases h; done) | skip
      split at h <;> first | (cases h; done) | skip
      rename_i heq
      cases heq
      simp only [Bool.and_eq_true] at h
      obtain ⟨⟨⟨⟨h1, h2⟩, h3⟩, h4⟩, h5⟩ := h
      obtain ⟨k1, k2, k3, k4⟩ := f.toFits.var h1
      exact ss_set ((sound e c X f.toFits).e _ h3) ((sound k c X f.toFits).e _ h2) k1 k2 k3 k4 h4 h5
  | .for_ t iter body kill, X, f => .of rfl fun st h => by
      cases st <;> first | (cases h; done) | skip
      split at h <;> first | (cases h; done) | skip
      rename_i heq
      cases heq
      simp only [Bool.and_eq_true] at h
      obtain ⟨⟨⟨⟨h1, h2⟩, h3⟩, hz⟩, h4⟩ := h
      exact ss_for f.po f.calm ((sound iter c X f.toFits).s _ _ hz h2) (f.toFits.target h1) ((soundS body X f).l _ h4) h3
  | .while_ t body kill fuel, X, f => .of rfl fun st h => by
      cases st <;> first | (cases h; done) | skip
      split at h <;> first | (cases h; done) | skip
      rename_i heq
      cases heq
      simp only [Bool.and_eq_true] at h
      obtain ⟨⟨h1, h2⟩, h3⟩ := h
      exact ss_while f.po ((sound t c X f.toFits).b h2 _ h1) ((soundS body X f).l _ h3)
end
end Tp
/-! Tp18: a def keeps the promise that its form tells; a whole text of defs. -/
namespace Tp
open PySem PySem.Spec PyProof.Rows L2
structure FD where
  name : Str
  ps : List Str
  N : List Str
  io : Option Nat
  own : Bool
  body : IS
/-- the defs (by number) and the constants of a text -/
structure PG where
  fns : List (Nat × FD)
  gl : List (Str × D)
def PG.I (G : PG) : PgI := { fn := fun g => (G.fns.lookup g).map fun f => ⟨f.name, f.io, f.own⟩, gl := G.gl }
def initV : List D → Env
  | [] => []
  | d :: ds => .val d :: initV ds
def initN : Nat → List D → Env
  | _, [] => []
  | 0, d :: ds => .io d :: initV ds
  | n + 1, d :: ds => .val d :: initN n ds
def initE : Option Nat → List D → Env
  | none => initV
  | some n => initN n
def outE (io : Option Nat) (e : Env) (k : D → FRes) : FRes := match io with
  | none => k .none
  | some i => match e[i]? with | some (.io d) => k d | _ => .stuck
def endB (io : Option Nat) (own : Bool) : Out → FRes
  | .rt d e => outE io e fun out => .ok d out
  | .nx e => if own then .stuck else outE io e fun out => .ok .none out
  | .exc c x e => outE io e fun out => .exc c x out
  | _ => .stuck
def runB (P : PgI) (cf : Nat → List D → FRes) (fd : FD) (ds : List D) : FRes :=
  if ds.length = fd.ps.length then endB fd.io fd.own (denS P cf fd.body (initE fd.io ds ++ List.replicate (fd.N.length - fd.ps.length) .no)) else .stuck
/-- the text's defs, n deep -/
def run (G : PG) : Nat → Nat → List D → FRes
  | 0, _, _ => .stuck
  | n + 1, g, ds => match G.fns.lookup g with
    | none => .stuck
    | some fd => runB G.I (run G n) fd ds
theorem initV_len : ∀ ds : List D, (initV ds).length = ds.length
  | [] => rfl
  | _ :: ds => congrArg Nat.succ (initV_len ds)
theorem initN_len : ∀ (n : Nat) (ds : List D), (initN n ds).length = ds.length
  | 0, [] => rfl
  | _ + 1, [] => rfl
  | 0, _ :: ds => congrArg Nat.succ (initV_len ds)
  | n + 1, _ :: ds => congrArg Nat.succ (initN_len n ds)
theorem initE_len (io : Option Nat) (ds : List D) : (initE io ds).length = ds.length := by
  cases io with
  | none => exact initV_len ds
  | some n => exact initN_len n ds
theorem initV_get : ∀ (ds : List D) (i : Nat), (initV ds)[i]? = (ds[i]?).map .val
  | [], i => rfl
  | d :: ds, 0 => rfl
  | d :: ds, i + 1 => initV_get ds i
theorem initN_get : ∀ (n : Nat) (ds : List D) (i : Nat), (initN n ds)[i]? = (ds[i]?).map fun d => if n = i then .io d else .val d
  | 0, [], i => rfl
  | _ + 1, [], i => rfl
  | 0, d :: ds, 0 => rfl
  | 0, d :: ds, i + 1 => by
    show (initV ds)[i]? = _
    rw [initV_get]
    simp
  | n + 1, d :: ds, 0 => rfl
  | n + 1, d :: ds, i + 1 => by
    show (initN n ds)[i]? = _
    rw [initN_get]
    simp
theorem initE_get (io : Option Nat) (ds : List D) (i : Nat) : (initE io ds)[i]? = (ds[i]?).map fun d => if io = some i then .io d else .val d := by
  cases io with
  | none =>
    rw [show initE none = initV from rfl, initV_get]
    simp
  | some n =>
    rw [show initE (some n) = initN n from rfl, initN_get]
    simp
/-- the slots of an entry -/
theorem entry_get {io : Option Nat} {ds : List D} {m i : Nat} {sl : Slot} (h : (initE io ds ++ List.replicate m .no)[i]? = some sl) : sl = .no ∨ ∃ d, ds[i]? = some d ∧ sl = if io = some i then .io d else .val d := by
  by_cases hi : i < (initE io ds).length
  · rw [List.getElem?_append_left hi, initE_get] at h
    obtain ⟨d, h1, h2⟩ := Option.map_eq_some_iff.mp h
    exact .inr ⟨d, h1, h2.symm⟩
  · rw [List.getElem?_append_right (by omega), List.getElem?_replicate] at h
    split at h
    · exact .inl (Option.some.inj h).symm
    · cases h
theorem entry_in {io : Option Nat} {ds : List D} {m i : Nat} {d : D} (h : ds[i]? = some d) : (initE io ds ++ List.replicate m .no)[i]? = some (if io = some i then .io d else .val d) := by
  have hi : i < (initE io ds).length := by rw [initE_len]; exact (List.getElem?_eq_some_iff.mp h).1
  rw [List.getElem?_append_left hi, initE_get, h]
  rfl
def iosOf (io : Option Nat) (vs : List V) : List (Nat × Addr) := match io with
  | none => []
  | some i => match ioA (some i) vs with | some a => [(i, a)] | none => []
theorem start_get {N : List Str} {vs : List V} {i : Nat} {v : V} (h : vs[i]? = some v) : (L2.start N vs)[i]? = some (some v) := by
  unfold L2.start
  have hi : i < (vs.map some).length := by rw [List.length_map]; exact (List.getElem?_eq_some_iff.mp h).1
  rw [List.getElem?_append_left hi, List.getElem?_map, h]
  rfl
theorem sr_start {K : Fg} {G H : Hp} {io : Option Nat} {ds : List D} {vs : List V} {N ps : List Str} {W : WX} (l : LeG G H) (ar : ArgsR K G H io ds vs) (hl : ds.length = ps.length) (hN : ps.length ≤ N.length) :
    SR K ⟨H, G, iosOf io vs, [], W⟩ (L2.start N vs) H (initE io ds ++ List.replicate (N.length - ps.length) .no) G := by
  have hv : ds.length = vs.length := ar.length
  refine ⟨l, ?_, fun i d h => ?_, fun i d h => ?_, fun i d h => ?_, fun p hp => ?_, fun i j d d' a hij h1 h2 _ _ => ?_, fun b o _ h => h, LeG.refl, fun b o h => .inl h, fun p hp => by cases hp⟩
  · unfold L2.start
    simp only [List.length_append, List.length_replicate, List.length_map, initE_len]
    omega
  · rcases entry_get h with z | ⟨d', h1, h2⟩
    · cases z
    · split at h2
      · cases h2
      · rename_i n
        cases h2
        obtain ⟨v, h3, h4⟩ := ar.val n h1
        exact ⟨v, start_get h3, h4⟩
  · rcases entry_get h with z | ⟨d', h1, h2⟩
    · cases z
    · split at h2 <;> cases h2
  · rcases entry_get h with z | ⟨d', h1, h2⟩
    · cases z
    · split at h2
      · rename_i e
        subst e
        cases h2
        obtain ⟨a, d2, h3, h4, ow⟩ := ArgsR.io ar
        rw [h1] at h4
        cases h4
        refine ⟨a, ?_, ow, fun p hp => by cases hp⟩
        unfold iosOf
        simp [ioA, h3]
      · cases h2
  · unfold iosOf at hp
    cases io with
    | none => cases hp
    | some i =>
      obtain ⟨a, d2, h3, h4, ow⟩ := ArgsR.io ar
      simp only [ioA, h3] at hp
      rw [List.mem_singleton] at hp
      subst hp
      exact ⟨start_get h3, d2, by rw [entry_in h4]; simp⟩
  · have fn : ∀ {i : Nat} {d : D}, ((initE io ds ++ List.replicate (N.length - ps.length) .no)[i]?.bind Slot.mine?) = some d → io = some i := fun {i d} h => by
      cases q : (initE io ds ++ List.replicate (N.length - ps.length) .no)[i]? with
      | none => rw [q] at h; cases h
      | some sl =>
        rw [q] at h
        rcases entry_get q with z | ⟨d', k1, k2⟩
        · subst z; cases h
        · split at k2
          · assumption
          · subst k2; cases h
    have e1 := fn h1
    have e2 := fn h2
    rw [e1] at e2
    exact hij (Option.some.inj e2)
theorem outE_ok {K : Fg} {T : ExcT} {own : Bool} {G H G' H' : Hp} {io : Option Nat} {vs : List V} {W : WX} {σ : L2.St} {e : Env} {r : FRes} {k : D → FRes} (s : SR K ⟨H, G, iosOf io vs, [], W⟩ σ H' e G') (hr : outE io e k = r) (hn : r ≠ .stuck) :
    ∃ out, r = k out ∧ CallEnd (ioA io vs) G H G' H' ∧ OutR K (ioA io vs) G' H' out := by
  have ce : CallEnd (ioA io vs) G H G' H' := by
    refine ⟨fun b o hb h => s.keep b o ?_ h, s.gk, s.le, s.fresh⟩
    show b ∉ (iosOf io vs).map (·.2)
    unfold iosOf
    cases io with
    | none => exact fun z => by cases z
    | some i =>
      simp only
      cases q : ioA (some i) vs with
      | none => exact fun z => by cases z
      | some a =>
        rw [q] at hb
        simp only [List.map_cons, List.map_nil, List.mem_singleton]
        exact fun z => hb (by rw [z])
  unfold outE at hr
  cases io with
  | none => exact ⟨_, hr.symm, ce, trivial⟩
  | some i =>
    simp only at hr
    cases q : e[i]? with
    | none => rw [q] at hr; exact absurd hr.symm hn
    | some sl =>
      rw [q] at hr
      cases sl with
      | io d =>
        obtain ⟨a, h1, h2, _⟩ := s.iosl i d q
        refine ⟨d, hr.symm, ce, ?_⟩
        have h1' : (i, a) ∈ iosOf (some i) vs := h1
        unfold iosOf at h1'
        simp only at h1'
        cases q2 : ioA (some i) vs with
        | none => rw [q2] at h1'; cases h1'
        | some a' =>
          rw [q2] at h1'
          rw [List.mem_singleton] at h1'
          cases h1'
          exact h2
      | _ => exact absurd hr.symm hn
def SpEnd (T : ExcT) (K : Fg) (io : Option Nat) (own : Bool) (vs : List V) (G H : Hp) (Q : VK) (E : XK) (r : FRes) : Prop :=
  match r with
  | .ok d out => ∀ v G' H', CallEnd (ioA io vs) G H G' H' → OutR K (ioA io vs) G' H' out → (if own = true then ∃ p, v = .ref p ∧ H p = none ∧ OwnAt K G' H' p d else RD K G' d v) → Q v H'
  | .exc c x out => ∀ cls dd G' H', CallEnd (ioA io vs) G H G' H' → OutR K (ioA io vs) G' H' out → ExcOk T K G' H' c x cls dd → E cls dd H'
  | .stuck => False
section
variable {P : Program} {w : World} {K : Fg} {mg : Str → Option Value} {base : Heap} {T : ExcT}
/-- a body that has its form, around its callees -/
theorem body_ok {PI : PgI} {cf : Nat → List D → FRes} {fd : FD} {X : Cx} {bd : List Stmt} {vs : List V} {H : Hp} {Q : VK} {E : XK} {c : MC} (f : FitsS T PI cf c X) (hc : (mtS PI fd.own fd.body).l c bd = true) (hX : X.K = K) (hN : fd.ps.length ≤ fd.N.length)
    (tk : Takes X (fun cls d _ H => E cls d H) ∨ ∀ cls d H, ¬ E cls d H) (h : spOf T K fd.io fd.own (runB PI cf fd) vs H Q E) :
    ∃ t, PSs X bd t ∧ t { nx := fun _ H' => Q .non H', rt := Q } (L2.start fd.N vs) H := by
  obtain ⟨G, ds, le, ar, q⟩ := h
  subst hX
  have tk' : Takes X (fun cls d _ H => E cls d H) := by
    rcases tk with tk | tk
    · exact tk
    · exact fun u s' ⟨_, _, _, _, _, _, _, _, _, _, _, _, _, _, _, _, z⟩ => (tk _ _ _ z).elim
  refine ⟨_, (soundS fd.body X f).l bd hc ⟨H, G, iosOf fd.io vs, [], fun cls d _ H => E cls d H⟩ tk', ?_⟩
  have q : SpEnd T X.K fd.io fd.own vs G H Q E (runB PI cf fd ds) := q
  unfold runB at q
  by_cases hlen : ds.length = fd.ps.length
  · rw [if_pos hlen] at q
    refine ⟨_, G, sr_start le ar hlen hN, ?_⟩
    have nst : ∀ {r : FRes}, SpEnd T X.K fd.io fd.own vs G H Q E r → r ≠ .stuck := fun h z => by rw [z] at h; exact h
    generalize denS PI cf fd.body (initE fd.io ds ++ List.replicate (fd.N.length - fd.ps.length) .no) = o at q ⊢
    cases o with
    | nx e =>
      intro σ H' G' s l
      unfold endB at q
      simp only at q
      cases ho : fd.own with
      | true => rw [ho, if_pos rfl] at q; exact q.elim
      | false =>
        rw [ho, if_neg (by simp)] at q
        obtain ⟨out, h1, h2, h3⟩ := outE_ok (T := T) (own := fd.own) s rfl (by rw [ho] at nst; exact nst q)
        rw [h1] at q
        exact q .non G' H' h2 h3 (by rw [if_neg (by simp)]; exact .non)
    | rt d e =>
      unfold endB at q
      simp only at q
      unfold AftS
      simp only
      cases ho : fd.own with
      | true =>
        rw [if_pos rfl]
        intro p o σ H' G' n s l ow
        obtain ⟨out, h1, h2, h3⟩ := outE_ok (T := T) (own := fd.own) s.unplus rfl (nst q)
        rw [h1] at q
        exact q _ G' H' h2 h3 (by rw [ho, if_pos rfl]; exact ⟨p, rfl, (s.res (p, o) List.mem_cons_self).2.2, ow⟩)
      | false =>
        rw [if_neg (by simp)]
        intro v σ H' G' s l r
        obtain ⟨out, h1, h2, h3⟩ := outE_ok (T := T) (own := fd.own) s rfl (nst q)
        rw [h1] at q
        exact q _ G' H' h2 h3 (by rw [ho, if_neg (by simp)]; exact r)
    | exc cc x e =>
      intro cls dd σ H' G' s l ex
      unfold endB at q
      simp only at q
      obtain ⟨out, h1, h2, h3⟩ := outE_ok (T := T) (own := fd.own) s rfl (nst q)
      rw [h1] at q
      exact q cls dd G' H' h2 h3 ex
    | bk e => exact q.elim
    | ct e => exact q.elim
    | stuck => exact q.elim
  · rw [if_neg hlen] at q
    exact q.elim
end
end Tp
/-! Tp19: all defs of a text; the law. -/
namespace Tp
open PySem PySem.Spec PyProof.Rows L2
structure FnFact (PI : PgI) (K : Fg) (mg : Str → Option Value) (fd : FD) : Prop where
  ex : ∃ (f : Addr) (fdt : FuncData) (params : Arguments) (body : List Stmt) (scope : Scope), FunD K fd.name fd.name params body scope [] [] f fdt ∧ mg fd.name = some (.ref f) ∧ FnScope fd.N fd.ps scope ∧ (mtS PI fd.own fd.body).l ⟨fd.N, scope, true⟩ body = true ∧ Binds K fdt fd.ps []
structure TextOk (G : PG) (K : Fg) (mg : Str → Option Value) : Prop where
  fns : ∀ (g : Nat) (fd : FD), G.fns.lookup g = some fd → FnFact G.I K mg fd
  gls : ∀ x d, G.gl.lookup x = some d → ∃ u v, mg x = some u ∧ RelV v u ∧ ∀ G', RD K G' d v
  blt : ∀ x ∈ bltNames, mg x = none
section
variable {P : Program} {w : World} {K : Fg} {mg : Str → Option Value} {base : Heap} {T : ExcT} {G : PG}
/-- the n deep text keeps its promises -/
def RunOk (T : ExcT) (P : Program) (w : World) (K : Fg) (mg : Str → Option Value) (base : Heap) (G : PG) (n : Nat) : Prop :=
  ∀ (g : Nat) (fd : FD), G.fns.lookup g = some fd → ∃ (f : Addr) (fdt : FuncData), FnOk P w K mg base (L2.CX P w) n f fdt fd.ps (spOf T K fd.io fd.own (run G n g)) ∧ mg fd.name = some (.ref f) ∧ PySem.W.keepIn K (.ref f) = true ∧ Binds K fdt fd.ps []
theorem pre_len {N ps : List Str} (h : N.take ps.length = ps) : ps.length ≤ N.length := by
  have := congrArg List.length h
  rw [List.length_take] at this
  omega
theorem fits_of (tx : TextOk G K mg) {n : Nat} (ih : RunOk T P w K mg base G n) {fd : FD} {scope : Scope} {X : Cx} (e1 : X.prog = P) (e2 : X.w = w) (e3 : X.K = K) (e4 : X.mg = mg) (e5 : X.base = base) (S : FnScope fd.N fd.ps scope) (hN : X.N = fd.N) (hs : X.env.scope = scope) (hc : X.calm = true) (hf : ∀ x, X.fn x = true) (hr : Room n X.A) :
    Fits T G.I (run G n) ⟨fd.N, scope, true⟩ X := by
  subst e1 e2 e3 e4 e5
  refine ⟨hN, hs, by rw [hN]; exact S.nd, hc, ?_, fun _ => hf, fun g i hg => ?_, tx.gls, tx.blt⟩
  · have := hr.un
    omega
  · obtain ⟨fd', h1, h2⟩ := Option.map_eq_some_iff.mp (show (G.fns.lookup g).map (fun f => FnI.mk f.name f.io f.own) = some i from hg)
    subst h2
    obtain ⟨f, fdt, k1, k2, k3, k4⟩ := ih g fd' h1
    exact ⟨⟨f, fdt, n, fd'.ps, k1, hr, k2, k3, k4⟩⟩
theorem args_len {fd : FD} {PI : PgI} {cf : Nat → List D → FRes} {vs : List V} {H : Hp} {Q : VK} {E : XK} (h : spOf T K fd.io fd.own (runB PI cf fd) vs H Q E) : vs.length = fd.ps.length := by
  obtain ⟨G, ds, le, ar, q⟩ := h
  have q : SpEnd T K fd.io fd.own vs G H Q E (runB PI cf fd ds) := q
  unfold runB at q
  by_cases hlen : ds.length = fd.ps.length
  · rw [← hlen]
    exact ar.length.symm
  · rw [if_neg hlen] at q
    exact q.elim
theorem spOf_cg {io : Option Nat} {own : Bool} {f f' : List D → FRes} (e : ∀ ds, f ds = f' ds) : spOf T K io own f = spOf T K io own f' := by
  have : f = f' := funext e
  rw [this]
theorem run_ok (tx : TextOk G K mg) : ∀ n, RunOk T P w K mg base G n
  | 0 => fun g fd h => by
    obtain ⟨f, fdt, params, body, scope, k1, k2, k3, k4, k5⟩ := (tx.fns g fd h).ex
    refine ⟨f, fdt, ⟨fun vs H Q E q => ?_, fun A outer s H args us vs Q E hr he hb hv q => ?_⟩, k2, k1.kp, k5⟩
    · obtain ⟨_, _, _, _, q⟩ := q
      exact q.elim
    · obtain ⟨_, _, _, _, q⟩ := q
      exact q.elim
  | n + 1 => fun g fd h => by
    obtain ⟨f, fdt, params, body, scope, k1, k2, k3, k4, k5⟩ := (tx.fns g fd h).ex
    refine ⟨f, fdt, ?_, k2, k1.kp, k5⟩
    rw [show spOf T K fd.io fd.own (run G (n + 1) g) = spOf T K fd.io fd.own (runB G.I (run G n) fd) from spOf_cg fun ds => by simp only [run, h]]
    refine k1.ok k3 (fun vs H Q E q => args_len q) fun cdv A outer s H vs Q E hr q => ?_
    refine body_ok (T := T) ⟨fits_of tx (run_ok tx n) rfl rfl rfl rfl rfl k3 rfl rfl rfl (fun _ => rfl) hr, passes_of rfl, k3.kind⟩ k4 rfl (pre_len k3.pre) (.inl (takes_of rfl rfl rfl rfl)) q
/-- the law's def: nothing is let out -/
theorem law_ok (tx : TextOk G K mg) {n : Nat} {fd : FD} {f : Addr} {fdt : FuncData} {params : Arguments} {body : List Stmt} {scope : Scope} {qual x : Str} (k1 : FunD K x qual params body scope [] [] f fdt) (k3 : FnScope fd.N fd.ps scope) (k4 : (mtS G.I fd.own fd.body).l ⟨fd.N, scope, true⟩ body = true) :
    FnOk P w K mg base CX0 (n + 1) f fdt fd.ps (fun vs H Q E => (∀ c d H, ¬ E c d H) ∧ spOf T K fd.io fd.own (runB G.I (run G n) fd) vs H Q E) := by
  refine k1.ok k3 (fun vs H Q E q => args_len q.2) fun cdv A outer s H vs Q E hr q => ?_
  obtain ⟨t, h1, h2⟩ := body_ok (T := T) (X := (cxOf CX0 P w K mg base fd.N qual scope f cdv A outer s H E).nox) ⟨fits_of tx (run_ok tx n) rfl rfl rfl rfl rfl k3 rfl rfl rfl (fun _ => rfl) hr, PassesOwn.never, k3.kind⟩ k4 rfl (pre_len k3.pre) (.inr q.1) q.2
  exact ⟨t, h1.nox, h2⟩
end
theorem lookup_mem {β : Type} {g : Nat} {b : β} : ∀ {l : List (Nat × β)}, l.lookup g = some b → (g, b) ∈ l
  | [], h => by cases h
  | (k, v) :: l, h => by
    rw [List.lookup_cons] at h
    cases q : g == k with
    | true =>
      rw [q] at h
      have : g = k := by simpa using q
      subst this
      cases h
      exact List.mem_cons_self
    | false =>
      rw [q] at h
      exact List.mem_cons_of_mem _ (lookup_mem h)
/-- facts of the head that a text asks -/
def faOf (G : PG) (law : Str) : List He.Fa := .glo law :: (G.fns.map (fun p => He.Fa.glo p.2.name) ++ bltNames.map He.Fa.free)
def defOf (x : Str) (st : Stmt) : He.DefD := ⟨(x, none), x, x, defArgs st, defBody st, defScope st, [], []⟩
def notFree : NameKind → Bool
  | .free => false
  | _ => true
def isLC (sc : Scope) (x : Str) : Bool := match sc.names.lookup x with | some .local => true | some .cell => true | _ => false
def scB (N ps : List Str) (sc : Scope) : Bool :=
  (match sc.kind with | .function => true | _ => false) && !sc.isCoroutine && !sc.isGenerator && decide N.Nodup && decide (N.take ps.length = ps) && ps.all (isLC sc) && sc.names.all fun y => notFree y.2
theorem scB_ok {N ps : List Str} {sc : Scope} (h : scB N ps sc = true) : FnScope N ps sc := by
  unfold scB at h
  simp only [Bool.and_eq_true, Bool.not_eq_true', decide_eq_true_eq, List.all_eq_true] at h
  obtain ⟨⟨⟨⟨⟨⟨h1, h2⟩, h3⟩, h4⟩, h5⟩, h6⟩, h7⟩ := h
  refine ⟨?_, h2, h3, h4, h5, fun x hx => ?_, fun y hy e => ?_⟩
  · split at h1
    · assumption
    · cases h1
  · have := h6 x hx
    unfold isLC at this
    split at this
    · exact .inl (by assumption)
    · exact .inr (by assumption)
    · cases this
  · have := h7 y hy
    rw [e] at this
    cases this
/-- of a def's statement: does it have the form? -/
def chk (PI : PgI) (fd : FD) (st : Stmt) : Bool := scB fd.N fd.ps (defScope st) && (mtS PI fd.own fd.body).l ⟨fd.N, defScope st, true⟩ (defBody st)
theorem fn_fact {PI : PgI} {K : Fg} {h : Heap} {mg : Str → Option Value} {fa : List He.Fa} {fn : List He.DefD} {fd : FD} {st : Stmt} (X : K.In h) (N : h.Ns mainGlobals mg) (c : He.SaysD fa fn K) (i : Nat) (hi : fn[i]? = some (defOf fd.name st)) (hg : He.Fa.glo fd.name ∈ fa) (ck : chk PI fd st = true)
    (hb : ∀ (kV doc pm : Value) (an : Option Addr) (cdv ct : Value) (us : List Value), us.length = fd.ps.length → bindArgs (PySem.W.fnOf fd.name fd.name (defArgs st) (defBody st) (defScope st) .none kV doc pm an cdv ct) ⟨us, []⟩ = pure (fd.ps.zip us)) : FnFact PI K mg fd := by
  obtain ⟨fdt, F⟩ := c.def_ i hi
  have F : FunD K fd.name fd.name (defArgs st) (defBody st) (defScope st) [] [] (He.fAd K (fd.name, none)) fdt := F
  obtain ⟨j, hj⟩ := List.mem_iff_getElem?.mp hg
  unfold chk at ck
  rw [Bool.and_eq_true] at ck
  exact ⟨⟨_, fdt, _, _, _, F, He.glo_ok X N (c.fact j hj), scB_ok ck.1, ck.2, F.bindsN hb⟩⟩
theorem blt_of {K : Fg} {h : Heap} {mg : Str → Option Value} {fa : List He.Fa} {fn : List He.DefD} (X : K.In h) (N : h.Ns mainGlobals mg) (c : He.SaysD fa fn K) (hf : ∀ x ∈ bltNames, He.Fa.free x ∈ fa) : ∀ x ∈ bltNames, mg x = none := fun x hx => by
  obtain ⟨j, hj⟩ := List.mem_iff_getElem?.mp (hf x hx)
  exact He.free_ok X N (c.fact j hj)
theorem gl_int {K : Fg} {h : Heap} {mg : Str → Option Value} {fa : List He.Fa} {fn : List He.DefD} (X : K.In h) (N : h.Ns mainGlobals mg) (c : He.SaysD fa fn K) {x : Str} {i : Int} (hf : He.Fa.int x i ∈ fa) : ∃ u v, mg x = some u ∧ RelV v u ∧ ∀ G', RD K G' (.int i) v := by
  obtain ⟨j, hj⟩ := List.mem_iff_getElem?.mp hf
  obtain ⟨t, e⟩ := He.int_ok X N (c.fact j hj)
  exact ⟨_, .int i, e, ⟨t, rfl⟩, fun _ => .int i⟩
theorem gl_str {K : Fg} {h : Heap} {mg : Str → Option Value} {fa : List He.Fa} {fn : List He.DefD} (X : K.In h) (N : h.Ns mainGlobals mg) (c : He.SaysD fa fn K) {x z : Str} (hf : He.Fa.str x z ∈ fa) : ∃ u v, mg x = some u ∧ RelV v u ∧ ∀ G', RD K G' (.str z) v := by
  obtain ⟨j, hj⟩ := List.mem_iff_getElem?.mp hf
  obtain ⟨t, e⟩ := He.str_ok X N (c.fact j hj)
  exact ⟨_, .str z, e, ⟨t, rfl⟩, fun _ => .str z⟩
/-- the law by what its form gives -/
theorem walk_T {l : PySem.W.OpenLaw} {n k : Nat} {q : Program} {loose : List Str} {XP : (Str → Option Value) → Heap → Prop} {YP : World → Heap → Prop} {d : DefRec} {CX : CXT} {x : Str}
    (hn : l.most = some n) (hn2 : n ≤ sizeLine) (hdf : d.params.defaults = []) (hr : Room k callerA)
    (F : ∀ (w : World) (mg : Str → Option Value) (fa : Addr) (h : Heap), YP w h → h.Ns mainGlobals mg → mg d.name = some (.ref fa) →
      ∃ (K : PySem.W.Frag) (fd : FuncData) (sp : Sp), K.In h ∧ (∀ (s : Shared) (u : Value), BindsTo s fd ⟨[u], []⟩ [(x, u)]) ∧
        (∀ (H : Hp) (a : Addr) (ns : List Int), ns.length ≤ n → LsK K H a (ns.map V.int) → sp [.ref a] H (fun v _ => v = .bl true) fun _ _ _ => False) ∧
        ∀ base : Heap, K.In base → base.Ns mainGlobals mg → FnOk l.prog w K mg base CX k fa fd [x] sp)
    (hCX : ∀ (H : Hp) (s : Shared) (e : Value) (s' : Shared), CX [] H s (fun _ _ _ => False) e s' → False) :
    PySem.W.WalkO q loose XP YP l.row.toRowW d [] (fun f vs => PySem.call f vs) := by
  refine Att.attach_call hn hdf fun w s₀ s₁ mg mb fa o pm cd doc a vs ns G Y ho hd hcd hmg hobj hints hlen hg => ?_
  obtain ⟨K, fd, sp, KX, hb, hsp, hF⟩ := F w mg fa _ Y G.T.g hmg
  refine law_call KX G.T.g G.T.b G.T.builtins G.T.nolimit hg hobj hints (Nat.le_trans hlen hn2) hr hF hb (fun H hO hS => hsp H a ns hlen ?_) fun H e s' => hCX H s₁ e s'
  rcases hS with h | ⟨o', its, m, e1, e2, e3, e4, e5, e6⟩
  · exact .inl h
  · have e7 := KX a o' e1
    rw [hobj] at e7
    cases e7
    cases e4
    exact .inr ⟨vs, _, e1, by simpa using Nat.le_trans hlen hn2, by simpa using e6⟩
/-- the script as data -/
theorem rd_script {K : Fg} {H : Hp} {a : Addr} {ns : List Int} (h : LsK K H a (ns.map V.int)) : RD K H (.list (ns.map .int)) (.ref a) := by
  refine .lst h ?_
  clear h
  induction ns with
  | nil => exact .nil
  | cons n ns ih => exact .cons (.int n) ih
/-- the law is kept, if its form gives True at every script -/
theorem law_sp {K : Fg} {T : ExcT} {H : Hp} {a : Addr} {ns : List Int} {f : List D → FRes} (h : LsK K H a (ns.map V.int)) (hf : ∃ out, f [.list (ns.map .int)] = .ok (.bool true) out) :
    (∀ c d H', ¬ (fun (_ : Value) (_ : Option Addr) (_ : Hp) => False) c d H') ∧ spOf T K none false f [.ref a] H (fun v _ => v = .bl true) fun _ _ _ => False := by
  refine ⟨fun _ _ _ z => z, H, [.list (ns.map .int)], LeG.refl, .cons (rd_script h) .nil, ?_⟩
  obtain ⟨out, e⟩ := hf
  rw [e]
  intro v G' H' _ _ r
  rw [if_neg (by simp)] at r
  cases r
  rfl
end Tp
/-! Pl1: the evaluator by simp: arguments first, what comes after is not looked into. -/
namespace Tp
open PySem
/-! ### results -/
def rb {α β : Type} (r : Res α) (k : α → Env → Res β) : Res β := match r with | .ok a e => k a e | .exc c x e => .exc c x e | .stuck => .stuck
@[simp] theorem rb_ok {α β : Type} (a : α) (e : Env) (k : α → Env → Res β) : rb (.ok a e) k = k a e := id rfl
@[simp] theorem rb_stuck {α β : Type} (k : α → Env → Res β) : rb (.stuck : Res α) k = .stuck := id rfl
theorem rb_congr {α β : Type} {r r' : Res α} {k : α → Env → Res β} (h : r = r') : rb r k = rb r' k := by rw [h]
@[simp] theorem bind_ap {α β : Type} (m : M α) (k : α → M β) (e : Env) : M.bind m k e = rb (m e) fun a e' => k a e' := by
  unfold M.bind rb
  cases m e <;> rfl
def rs {α : Type} (r : Res α) (k : α → Env → Out) : Out := match r with | .ok a e => k a e | .exc c x e => .exc c x e | .stuck => .stuck
@[simp] theorem rs_ok {α : Type} (a : α) (e : Env) (k : α → Env → Out) : rs (.ok a e) k = k a e := id rfl
@[simp] theorem rs_stuck {α : Type} (k : α → Env → Out) : rs (.stuck : Res α) k = .stuck := id rfl
theorem rs_congr {α : Type} {r r' : Res α} {k : α → Env → Out} (h : r = r') : rs r k = rs r' k := by rw [h]
@[simp] theorem onV_ap (m : M D) (k : D → SM) (e : Env) : onV m k e = rs (m e) fun a e' => k a e' := by
  unfold onV rs
  cases m e <;> rfl
@[simp] theorem onB_ap (m : M Bool) (k : Bool → SM) (e : Env) : onB m k e = rs (m e) fun a e' => k a e' := by
  unfold onB rs
  cases m e <;> rfl
@[simp] theorem onS_ap (m : M Src) (k : Src → SM) (e : Env) : onS m k e = rs (m e) fun a e' => k a e' := by
  unfold onS rs
  cases m e <;> rfl
def rq (o : Out) (b : SM) : Out := match o with | .nx e => b e | o => o
@[simp] theorem rq_nx (e : Env) (b : SM) : rq (.nx e) b = b e := id rfl
@[simp] theorem rq_rt (d : D) (e : Env) (b : SM) : rq (.rt d e) b = .rt d e := id rfl
@[simp] theorem rq_bk (e : Env) (b : SM) : rq (.bk e) b = .bk e := id rfl
@[simp] theorem rq_ct (e : Env) (b : SM) : rq (.ct e) b = .ct e := id rfl
@[simp] theorem rq_stuck (b : SM) : rq .stuck b = .stuck := id rfl
theorem rq_congr {o o' : Out} {b : SM} (h : o = o') : rq o b = rq o' b := by rw [h]
@[simp] theorem seqM_ap (a b : SM) (e : Env) : seqM a b e = rq (a e) b := by
  unfold seqM rq
  cases a e <;> rfl
@[simp] theorem nextM_ap (e : Env) : nextM e = .nx e := id rfl
@[simp] theorem ite_ap {α : Type} (c : Prop) [Decidable c] (a b : M α) (e : Env) : (if c then a else b) e = if c then a e else b e := by split <;> rfl
@[simp] theorem iteS_ap (c : Prop) [Decidable c] (a b : SM) (e : Env) : (if c then a else b) e = if c then a e else b e := by split <;> rfl
/-- a comprehension by its name -/
def lcE (P : PgI) (cf : Nat → List D → FRes) (i : IE) : M D := (den P cf i).e
/-! ### atoms -/
section
variable (e : Env) (i : Nat)
@[simp] theorem mVar_ap : mVar i e = match e[i]? with | some (.val d) => .ok d e | _ => .stuck := id rfl
@[simp] theorem mVarO_ap : mVarO i e = match e[i]? with | some (.val d) => .ok (.inl d) e | some (.own _) => .ok (.inr i) e | some (.io _) => .ok (.inr i) e | _ => .stuck := id rfl
@[simp] theorem mFrz_ap : mFrz i e = match e[i]? with | some (.val d) => .ok d e | some (.own d) => .ok d (e.set i (.val d)) | _ => .stuck := id rfl
@[simp] theorem asB_ap (b : Bool) : asB (.bool b) e = .ok b e := id rfl
@[simp] theorem asI_ap (j : Int) : asI (.int j) e = .ok (some j) e := id rfl
@[simp] theorem resolve_inl (d : D) : resolve (.inl d) e = some d := id rfl
@[simp] theorem resolve_inr : resolve (.inr i) e = e[i]?.bind Slot.mine? := id rfl
@[simp] theorem mine_own (d : D) : Slot.mine? (.own d) = some d := id rfl
@[simp] theorem mine_io (d : D) : Slot.mine? (.io d) = some d := id rfl
@[simp] theorem mine_val (d : D) : Slot.mine? (.val d) = none := id rfl
@[simp] theorem mine_no : Slot.mine? .no = none := id rfl
@[simp] theorem resolves_nil : resolves [] e = some [] := id rfl
@[simp] theorem resolves_cons (o : Opd) (os : List Opd) : resolves (o :: os) e = (resolve o e).bind fun d => (resolves os e).map fun ds => d :: ds := id rfl
@[simp] theorem plains_nil : plains [] = some [] := id rfl
@[simp] theorem plains_inl (d : D) (os : List Opd) : plains (.inl d :: os) = (plains os).map (d :: ·) := id rfl
@[simp] theorem plains_inr (os : List Opd) : plains (.inr i :: os) = none := id rfl
def okO (o : Option D) (e : Env) : Res D := match o with | some d => .ok d e | none => .stuck
@[simp] theorem okO_some (d : D) : okO (some d) e = .ok d e := id rfl
@[simp] theorem okO_none : okO none e = .stuck := id rfl
@[simp] theorem doOp1_ap (f : D → Option D) (o : Opd) : doOp1 f o e = okO ((resolve o e).bind f) e := id rfl
@[simp] theorem doOp2_ap (f : D → D → Option D) (o1 o2 : Opd) : doOp2 f o1 o2 e = okO ((resolve o1 e).bind fun d1 => (resolve o2 e).bind fun d2 => f d1 d2) e := id rfl
@[simp] theorem doOpN_ap (f : List D → Option D) (os : List Opd) : doOpN f os e = okO ((resolves os e).bind f) e := id rfl
@[simp] theorem doSlc_ap (o : Opd) (lo hi : Option Int) : doSlc o lo hi e = okO ((resolve o e).bind fun d => slcD d lo hi) e := id rfl
@[simp] theorem isi1_ap (t : Ty5) (o : Opd) : isi1 t o e = okO ((resolve o e).bind fun d => (isiD d t).map .bool) e := id rfl
@[simp] theorem mkTup_ap (os : List Opd) : mkTup os e = match plains os with | some ds => if ds.length ≤ sizeLine then .ok (.tuple ds) e else .stuck | none => .stuck := id rfl
@[simp] theorem mkLst_ap (os : List Opd) : mkLst os e = match plains os with | some ds => if ds.length ≤ sizeLine then .ok (.list ds) e else .stuck | none => .stuck := id rfl
end
/-! ### comprehensions, loops -/
theorem lcM_ok {mi : M Src} {t : Tgt} {own : List Nat} {mc : M Bool} {me : M D} {e e1 e2 eF : Env} {p : Src} {ds : List D} (h1 : mi e = .ok p e1) (h2 : p.1.length ≤ sizeLine) (h3 : srcOk p own = true) (h4 : wipeE e1 own = some e2) (h5 : lcLoop t own mc me p.1 e2 = some (ds, eF)) :
    lcM mi t own mc me e = .ok (.list ds) (backE e1 eF own) := by
  unfold lcM M.bind
  rw [h1]
  simp only [h2, h3, and_self, if_true, h4, Option.bind_some, h5]
/-- each element by itself, the state comes back -/
theorem lc_map {t : Tgt} {own : List Nat} {mc : M Bool} {me : M D} {f : D → D} : ∀ {ds : List D} {e : Env}, (∀ d ∈ ds, ∃ e3 e5, t.bind d e = some e3 ∧ mc e3 = .ok true e3 ∧ me e3 = .ok (f d) e5 ∧ wipeE e5 own = some e) → lcLoop t own mc me ds e = some (ds.map f, e)
  | [], e, h => rfl
  | d :: ds, e, h => by
    obtain ⟨e3, e5, h1, h2, h3, h4⟩ := h d List.mem_cons_self
    unfold lcLoop
    simp only [h1, h2, h3, h4, Option.bind_some, lc_map (fun x hx => h x (List.mem_cons_of_mem _ hx)), Option.map_some, List.map_cons]
theorem lc_filter {t : Tgt} {own : List Nat} {mc : M Bool} {me : M D} {f : D → D} {p : D → Bool} : ∀ {ds : List D} {e : Env}, (∀ d ∈ ds, ∃ e3 e5, t.bind d e = some e3 ∧ mc e3 = .ok (p d) e3 ∧ (p d = true → me e3 = .ok (f d) e5) ∧ (p d = false → e5 = e3) ∧ wipeE e5 own = some e) → lcLoop t own mc me ds e = some ((ds.filter p).map f, e)
  | [], e, h => rfl
  | d :: ds, e, h => by
    obtain ⟨e3, e5, h1, h2, h3, h5, h4⟩ := h d List.mem_cons_self
    unfold lcLoop
    cases hp : p d with
    | true => simp only [h1, h2, hp, h3 hp, h4, Option.bind_some, lc_filter (fun x hx => h x (List.mem_cons_of_mem _ hx)), Option.map_some, List.map_cons, List.filter_cons, if_true]
    | false =>
      have := h5 hp
      subst this
      simp only [h1, h2, hp, h4, Option.bind_some, lc_filter (fun x hx => h x (List.mem_cons_of_mem _ hx)), List.filter_cons]
      rfl
/-- elements that change the state: an invariant by the number done -/
theorem lc_inv {t : Tgt} {own : List Nat} {mc : M Bool} {me : M D} {I : Nat → Env → Prop} {R : Nat → D → Prop} : ∀ {ds : List D} {n : Nat} {e : Env}, I n e → (∀ i d e, ds[i]? = some d → I (n + i) e → ∃ e3 e4 v e5 e6, t.bind d e = some e3 ∧ mc e3 = .ok true e4 ∧ me e4 = .ok v e5 ∧ wipeE e5 own = some e6 ∧ R (n + i) v ∧ I (n + i + 1) e6) →
    ∃ vs eF, lcLoop t own mc me ds e = some (vs, eF) ∧ I (n + ds.length) eF ∧ vs.length = ds.length ∧ ∀ i v, vs[i]? = some v → R (n + i) v
  | [], n, e, h0, h => ⟨[], e, rfl, h0, rfl, fun i v q => by cases q⟩
  | d :: ds, n, e, h0, h => by
    obtain ⟨e3, e4, v, e5, e6, h1, h2, h3, h4, h5, h6⟩ := h 0 d e rfl h0
    obtain ⟨vs, eF, k1, k2, k3, k4⟩ := lc_inv (ds := ds) (n := n + 1) (e := e6) h6 fun i x ex hx hi => by
      have := h (i + 1) x ex (by simpa using hx) (by rw [show n + (i + 1) = n + 1 + i by omega]; exact hi)
      rw [show n + (i + 1) = n + 1 + i by omega] at this
      exact this
    refine ⟨v :: vs, eF, ?_, by rw [List.length_cons, show n + (ds.length + 1) = n + 1 + ds.length by omega]; exact k2, by simp [k3], fun i w q => ?_⟩
    · unfold lcLoop
      simp only [h1, h2, h3, h4, Option.bind_some, k1, Option.map_some]
    · cases i with
      | zero =>
        cases q
        exact h5
      | succ i =>
        have := k4 i w (by simpa using q)
        rw [show n + (i + 1) = n + 1 + i by omega]
        exact this
theorem forM_val {mi : M Src} {t : Tgt} {mb : SM} {kill : List Nat} {e e1 : Env} {ds : List D} (h : mi e = .ok (ds, none) e1) : forM' mi t mb kill e = forLoop t mb kill ds e1 := by
  unfold forM' onS
  rw [h]
/-- a loop that never leaves early: an invariant by the number done -/
theorem for_inv {t : Tgt} {mb : SM} {kill : List Nat} {I : Nat → Env → Prop} : ∀ {ds : List D} {n : Nat} {e : Env}, I n e → (∀ i d e, ds[i]? = some d → I (n + i) e → ∃ e1 e2 e3, t.bind d e = some e1 ∧ (mb e1 = .nx e2 ∨ mb e1 = .ct e2) ∧ wipeE e2 kill = some e3 ∧ I (n + i + 1) e3) →
    ∃ eF, forLoop t mb kill ds e = .nx eF ∧ I (n + ds.length) eF
  | [], n, e, h0, h => ⟨e, rfl, h0⟩
  | d :: ds, n, e, h0, h => by
    obtain ⟨e1, e2, e3, h1, h2, h3, h4⟩ := h 0 d e rfl h0
    obtain ⟨eF, k1, k2⟩ := for_inv (ds := ds) (n := n + 1) (e := e3) h4 fun i x ex hx hi => by
      have := h (i + 1) x ex (by simpa using hx) (by rw [show n + (i + 1) = n + 1 + i by omega]; exact hi)
      rw [show n + (i + 1) = n + 1 + i by omega] at this
      exact this
    refine ⟨eF, ?_, by rw [List.length_cons, show n + (ds.length + 1) = n + 1 + ds.length by omega]; exact k2⟩
    unfold forLoop
    rcases h2 with h2 | h2 <;> simp only [h1, h2, h3, k1]
end Tp
/-! Ts1: from the forms to plain functions: outcomes, patterns of slots, the rules. -/
namespace Tp
open PySem
/-- what a plain function gives: a value, an exception, or nothing that is known -/
inductive R (α : Type) where
  | ok (a : α)
  | exc (c : Nat) (x : D)
  | bad
namespace R
def bind {α β : Type} (r : R α) (k : α → R β) : R β := match r with | .ok a => k a | .exc c x => .exc c x | .bad => .bad
/-- .. without its exceptions -/
def draw {α β : Type} (r : R α) (k : α → R β) : R β := match r with | .ok a => k a | _ => .bad
@[simp] theorem draw_ok {α β : Type} (a : α) (k : α → R β) : (R.ok a).draw k = k a := rfl
def of {α : Type} : Option α → R α | some a => .ok a | none => .bad
def guard {α : Type} (b : Bool) (r : R α) : R α := if b = true then r else .bad
@[simp] theorem bind_ok {α β : Type} (a : α) (k : α → R β) : (R.ok a).bind k = k a := rfl
@[simp] theorem bind_exc {α β : Type} (c : Nat) (x : D) (k : α → R β) : (R.exc c x).bind k = .exc c x := rfl
@[simp] theorem bind_bad {α β : Type} (k : α → R β) : (R.bad).bind k = .bad := rfl
theorem bind_assoc {α β γ : Type} (r : R α) (k : α → R β) (l : β → R γ) : (r.bind k).bind l = r.bind fun a => (k a).bind l := by cases r <;> rfl
@[simp] theorem bind_pure {α : Type} (r : R α) : (r.bind fun a => .ok a) = r := by cases r <;> rfl
@[simp] theorem guard_t {α : Type} (r : R α) : R.guard true r = r := rfl
@[simp] theorem guard_f {α : Type} (r : R α) : R.guard false r = .bad := rfl
theorem guard_of {α : Type} {b : Bool} {r : R α} (h : b = true) : R.guard b r = r := by rw [h]; rfl
@[simp] theorem of_some {α : Type} (a : α) : R.of (some a) = .ok a := rfl
@[simp] theorem of_none {α : Type} : R.of (none : Option α) = .bad := rfl
end R
/-- what is known of the slots; none: nothing, but that it is not one that was handed in to be changed -/
abbrev Pat := List (Option Slot)
def Fit : Pat → Env → Prop
  | [], [] => True
  | q :: p, s :: e => (match q with | some t => s = t | none => ∀ d, s ≠ .io d) ∧ Fit p e
  | _, _ => False
theorem fit_get : ∀ {p : Pat} {e : Env} {i : Nat} {s : Slot}, Fit p e → p[i]? = some (some s) → e[i]? = some s
  | [], [], _, _, _, h => by simp at h
  | [], _ :: _, _, _, h, _ => h.elim
  | _ :: _, [], _, _, h, _ => h.elim
  | q :: p, t :: e, 0, s, h, k => by
    simp only [List.getElem?_cons_zero, Option.some.injEq] at k ⊢
    subst k
    exact h.1
  | q :: p, t :: e, i + 1, s, h, k => by
    simp only [List.getElem?_cons_succ] at k ⊢
    exact fit_get h.2 k
def nio (p : Pat) (i : Nat) : Bool := match p[i]? with | some (some (.io _)) => false | some _ => true | none => false
theorem nio_get : ∀ {p : Pat} {e : Env} {i : Nat}, Fit p e → nio p i = true → ∃ s, e[i]? = some s ∧ ∀ d, s ≠ .io d
  | [], _, _, _, h => by simp [nio] at h
  | _ :: _, [], _, h, _ => h.elim
  | q :: p, t :: e, 0, h, k => by
    refine ⟨t, rfl, ?_⟩
    cases q with
    | none => exact h.1
    | some s =>
      have : t = s := h.1
      subst this
      intro d z
      subst z
      simp [nio] at k
  | q :: p, t :: e, i + 1, h, k => by
    have k' : nio p i = true := by simpa [nio] using k
    simpa using nio_get h.2 k'
theorem fit_set : ∀ {p : Pat} {e : Env} {i : Nat} {s : Slot}, Fit p e → Fit (p.set i (some s)) (e.set i s)
  | [], [], _, _, _ => trivial
  | [], _ :: _, _, _, h => h.elim
  | _ :: _, [], _, _, h => h.elim
  | q :: p, t :: e, 0, s, h => ⟨rfl, h.2⟩
  | q :: p, t :: e, i + 1, s, h => ⟨h.1, fit_set h.2⟩
theorem fit_setN : ∀ {p : Pat} {e : Env} {i : Nat} {s : Slot}, (∀ d, s ≠ .io d) → Fit p e → Fit (p.set i none) (e.set i s)
  | [], [], _, _, _, _ => trivial
  | [], _ :: _, _, _, _, h => h.elim
  | _ :: _, [], _, _, _, h => h.elim
  | q :: p, t :: e, 0, s, n, h => ⟨n, h.2⟩
  | q :: p, t :: e, i + 1, s, n, h => ⟨h.1, fit_setN n h.2⟩
theorem fit_len : ∀ {p : Pat} {e : Env}, Fit p e → p.length = e.length
  | [], [], _ => rfl
  | [], _ :: _, h => h.elim
  | _ :: _, [], h => h.elim
  | _ :: p, _ :: e, h => congrArg Nat.succ (fit_len h.2)
theorem fit_all : ∀ e : Env, Fit (e.map some) e
  | [] => trivial
  | _ :: e => ⟨rfl, fit_all e⟩
inductive Weak : Pat → Pat → Prop
  | nil : Weak [] []
  | same {x : Option Slot} {p q : Pat} : Weak p q → Weak (x :: p) (x :: q)
  | drop {p q : Pat} {s : Slot} : (match s with | .io _ => False | _ => True) → Weak p q → Weak (some s :: p) (none :: q)
theorem Weak.fit : ∀ {p q : Pat} {e : Env}, Weak p q → Fit p e → Fit q e
  | _, _, [], .nil, h => h
  | _, _, _ :: _, .nil, h => h.elim
  | _, _, [], .same w, h => h.elim
  | _, _, s :: e, .same w, h => ⟨h.1, w.fit h.2⟩
  | _, _, [], .drop n w, h => h.elim
  | _, _, s :: e, .drop n w, h => ⟨fun d z => by
      have := h.1
      simp only at this
      subst this
      subst z
      exact n, w.fit h.2⟩
theorem Weak.refl : ∀ {p : Pat}, Weak p p
  | [] => .nil
  | _ :: _ => .same Weak.refl
theorem setV_fit {p : Pat} {e : Env} {i : Nat} (d : D) (h : Fit p e) (k : nio p i = true) : setV e i d = some (e.set i (.val d)) ∧ Fit (p.set i (some (.val d))) (e.set i (.val d)) := by
  obtain ⟨s, h1, h2⟩ := nio_get h k
  refine ⟨?_, fit_set h⟩
  unfold setV
  rw [h1]
  cases s <;> first | rfl | exact absurd rfl (h2 _)
theorem setO_fit {p : Pat} {e : Env} {i : Nat} (d : D) (h : Fit p e) (k : nio p i = true) : setO e i d = some (e.set i (.own d)) ∧ Fit (p.set i (some (.own d))) (e.set i (.own d)) := by
  obtain ⟨s, h1, h2⟩ := nio_get h k
  refine ⟨?_, fit_set h⟩
  unfold setO
  rw [h1]
  cases s <;> first | rfl | exact absurd rfl (h2 _)
def bindPs : List Nat → List D → Pat → Option Pat
  | [], [], p => some p
  | i :: is, d :: ds, p => match nio p i with | true => bindPs is ds (p.set i (some (.val d))) | false => none
  | _, _, _ => none
def bindP : Tgt → D → Pat → Option Pat
  | .one i, d, p => match nio p i with | true => some (p.set i (some (.val d))) | false => none
  | .many is, .tuple ds, p => bindPs is ds p
  | _, _, _ => none
theorem bindPs_fit : ∀ {is : List Nat} {ds : List D} {p q : Pat} {e : Env}, bindPs is ds p = some q → Fit p e → ∃ e', bindAll is ds e = some e' ∧ Fit q e'
  | [], [], p, q, e, h, f => by cases h; exact ⟨e, rfl, f⟩
  | [], _ :: _, _, _, _, h, _ => by cases h
  | _ :: _, [], _, _, _, h, _ => by cases h
  | i :: is, d :: ds, p, q, e, h, f => by
    unfold bindPs at h
    split at h
    · rename_i k
      obtain ⟨h1, h2⟩ := setV_fit d f k
      obtain ⟨e', h3, h4⟩ := bindPs_fit h h2
      exact ⟨e', by simp only [bindAll, h1, Option.bind_some, h3], h4⟩
    · cases h
theorem bindP_fit {t : Tgt} {d : D} {p q : Pat} {e : Env} (h : bindP t d p = some q) (f : Fit p e) : ∃ e', t.bind d e = some e' ∧ Fit q e' := by
  unfold bindP at h
  split at h
  · split at h
    · rename_i k
      cases h
      obtain ⟨h1, h2⟩ := setV_fit d f k
      exact ⟨_, h1, h2⟩
    · cases h
  · exact bindPs_fit h f
  · cases h
/-- slots that are forgotten -/
def unk (p : Pat) (v : Nat) : Bool := match p[v]? with | some none => true | _ => false
theorem unk_set : ∀ {p : Pat} {e : Env} {v : Nat} {s : Slot}, unk p v = true → (∀ d, s ≠ .io d) → Fit p e → Fit p (e.set v s)
  | [], _, _, _, h, _, _ => by simp [unk] at h
  | _ :: _, [], _, _, _, _, f => f.elim
  | q :: p, t :: e, 0, s, h, n, f => by
    have : q = none := by
      cases q with
      | none => rfl
      | some _ => simp [unk] at h
    subst this
    exact ⟨n, f.2⟩
  | q :: p, t :: e, v + 1, s, h, n, f => ⟨f.1, unk_set (v := v) (by simpa [unk] using h) n f.2⟩
theorem unk_nio {p : Pat} {v : Nat} (h : unk p v = true) : nio p v = true := by
  unfold unk at h
  unfold nio
  split at h
  · rename_i k; rw [k]
  · cases h
theorem wipe_fit : ∀ {ks : List Nat} {p : Pat} {e : Env}, ks.all (unk p) = true → Fit p e → ∃ e', wipeE e ks = some e' ∧ Fit p e'
  | [], p, e, _, f => ⟨e, rfl, f⟩
  | v :: ks, p, e, h, f => by
    rw [List.all_cons, Bool.and_eq_true] at h
    obtain ⟨e1, h1, h2⟩ := wipe_fit h.2 f
    obtain ⟨s, h3, h4⟩ := nio_get h2 (unk_nio h.1)
    refine ⟨e1.set v .no, ?_, unk_set h.1 (fun d z => by cases z) h2⟩
    unfold wipeE
    rw [h1, Option.bind_some, h3]
    cases s <;> first | rfl | exact absurd rfl (h4 _)
/-! ### expressions, what comes behind handed on -/
def CE {β τ : Type} (m : M β) (p : Pat) (r : R τ) (Q : β → Pat → R τ → Prop) : Prop :=
  ∀ e, Fit p e → r = .bad ∨ (∃ x e' p', m e = .ok x e' ∧ Fit p' e' ∧ Q x p' r) ∨ (∃ c x e', m e = .exc c x e' ∧ r = .exc c x)
/-- statements -/
def CS {τ : Type} (sm : SM) (p : Pat) (r : R τ) (Q : Out → R τ → Prop) : Prop :=
  ∀ e, Fit p e → r = .bad ∨ Q (sm e) r ∨ (∃ c x e', sm e = .exc c x e' ∧ r = .exc c x)
section
variable {α β γ τ : Type} {p p' : Pat} {r : R τ} {Q : β → Pat → R τ → Prop}
theorem ce_bind {m : M α} {k : α → M β} (h : CE m p r fun x p' r' => CE (k x) p' r' Q) : CE (M.bind m k) p r Q := fun e f => by
  rcases h e f with h | ⟨x, e1, p1, h1, h2, h3⟩ | ⟨c, x, e1, h1, h2⟩
  · exact .inl h
  · rcases h3 e1 h2 with h | ⟨y, e2, p2, k1, k2, k3⟩ | ⟨c, y, e2, k1, k2⟩
    · exact .inl h
    · exact .inr (.inl ⟨y, e2, p2, by unfold M.bind; rw [h1]; exact k1, k2, k3⟩)
    · exact .inr (.inr ⟨c, y, e2, by unfold M.bind; rw [h1]; exact k1, k2⟩)
  · exact .inr (.inr ⟨c, x, e1, by unfold M.bind; rw [h1], h2⟩)
end
end Tp
/-! Ts2: the rules of expressions. -/
namespace Tp
open PySem
abbrev QE (β τ : Type) := β → Pat → R τ → Prop
section
variable {α β γ τ σ : Type} {p p' : Pat} {r : R τ} {P : PgI} {cf : Nat → List D → FRes}
theorem ce_pure {Q : QE β τ} {x : β} (h : Q x p r) : CE (M.pure x) p r Q := fun e f => .inr (.inl ⟨x, e, p, rfl, f, h⟩)
theorem ce_get {Q : QE D τ} {i : Nat} {d : D} (h : p[i]? = some (some (.val d))) (q : Q d p r) : CE (mVar i) p r Q := fun e f => .inr (.inl ⟨d, e, p, by unfold mVar; rw [fit_get f h], f, q⟩)
theorem ce_geto {Q : QE Opd τ} {i : Nat} {d : D} (h : p[i]? = some (some (.val d))) (q : Q (.inl d) p r) : CE (mVarO i) p r Q := fun e f => .inr (.inl ⟨.inl d, e, p, by unfold mVarO; rw [fit_get f h], f, q⟩)
theorem ce_getown {Q : QE Opd τ} {i : Nat} {d : D} (h : p[i]? = some (some (.own d))) (q : Q (.inr i) p r) : CE (mVarO i) p r Q := fun e f => .inr (.inl ⟨.inr i, e, p, by unfold mVarO; rw [fit_get f h], f, q⟩)
theorem ce_getio {Q : QE Opd τ} {i : Nat} {d : D} (h : p[i]? = some (some (.io d))) (q : Q (.inr i) p r) : CE (mVarO i) p r Q := fun e f => .inr (.inl ⟨.inr i, e, p, by unfold mVarO; rw [fit_get f h], f, q⟩)
theorem ce_frzo {Q : QE D τ} {i : Nat} {d : D} (h : p[i]? = some (some (.own d))) (q : Q d (p.set i (some (.val d))) r) : CE (mFrz i) p r Q := fun e f => .inr (.inl ⟨d, e.set i (.val d), _, by unfold mFrz; rw [fit_get f h], fit_set f, q⟩)
theorem ce_frzv {Q : QE D τ} {i : Nat} {d : D} (h : p[i]? = some (some (.val d))) (q : Q d p r) : CE (mFrz i) p r Q := fun e f => .inr (.inl ⟨d, e, p, by unfold mFrz; rw [fit_get f h], f, q⟩)
/-- steps of the plain function -/
theorem ce_guard {m : M β} {Q : QE β τ} {b : Bool} (h : b = true → CE m p r Q) : CE m p (R.guard b r) Q := fun e f => by
  cases b with
  | true => exact h rfl e f
  | false => exact .inl rfl
theorem ce_of {m : M β} {Q : QE β τ} {o : Option α} {k : α → R τ} (h : ∀ a, o = some a → CE m p (k a) Q) : CE m p (R.bind (R.of o) k) Q := fun e f => by
  cases o with
  | some a => exact h a rfl e f
  | none => exact .inl rfl
theorem ce_ite {m : M β} {Q : QE β τ} {b : Bool} {r1 r2 : R τ} (h1 : b = true → CE m p r1 Q) (h2 : b = false → CE m p r2 Q) : CE m p (if b = true then r1 else r2) Q := fun e f => by
  cases b with
  | true => exact h1 rfl e f
  | false => exact h2 rfl e f
theorem ce_weak {m : M β} {Q : QE β τ} (w : Weak p p') (h : CE m p' r Q) : CE m p r Q := fun e f => h e (w.fit f)
/-- a part by itself -/
theorem ce_sub {m : M β} {Q : QE β τ} {r1 : R α} {k : α → R τ} {v : α → β} {p2 : α → Pat} (h : CE m p r1 fun x q r' => ∃ a, x = v a ∧ r' = .ok a ∧ Weak q (p2 a)) (hk : ∀ a, Q (v a) (p2 a) (k a)) : CE m p (R.bind r1 k) Q := fun e f => by
  rcases h e f with h | ⟨x, e1, p1, h1, h2, a, rfl, h3, w⟩ | ⟨c, x, e1, h1, h2⟩
  · exact .inl (by rw [h]; rfl)
  · refine .inr (.inl ⟨_, e1, _, h1, w.fit h2, ?_⟩)
    rw [h3]
    exact hk a
  · exact .inr (.inr ⟨c, x, e1, h1, by rw [h2]; rfl⟩)
/-- .. that has its value at once -/
theorem ce_val {m : M β} {Q : QE β τ} {x : β} (h : CE m p (R.ok ()) fun y q (_ : R Unit) => y = x ∧ Weak q p) (q : Q x p r) : CE m p r Q := fun e f => by
  rcases h e f with h | ⟨y, e1, p1, h1, h2, rfl, w⟩ | ⟨c, x, e1, h1, h2⟩
  · cases h
  · exact .inr (.inl ⟨_, e1, _, h1, w.fit h2, q⟩)
  · cases h2
inductive Rs (p : Pat) : Opd → D → Prop
  | v (d : D) : Rs p (.inl d) d
  | own {i : Nat} {d : D} : p[i]? = some (some (.own d)) → Rs p (.inr i) d
  | io {i : Nat} {d : D} : p[i]? = some (some (.io d)) → Rs p (.inr i) d
theorem Rs.res {o : Opd} {d : D} {e : Env} (h : Rs p o d) (f : Fit p e) : resolve o e = some d := by
  cases h with
  | v => rfl
  | own h => show (e[_]?).bind Slot.mine? = _; rw [fit_get f h]; rfl
  | io h => show (e[_]?).bind Slot.mine? = _; rw [fit_get f h]; rfl
inductive Rss (p : Pat) : List Opd → List D → Prop
  | nil : Rss p [] []
  | cons {o : Opd} {d : D} {os : List Opd} {ds : List D} : Rs p o d → Rss p os ds → Rss p (o :: os) (d :: ds)
theorem Rss.res {os : List Opd} {ds : List D} {e : Env} (h : Rss p os ds) (f : Fit p e) : resolves os e = some ds := by
  induction h with
  | nil => rfl
  | cons a b ih => unfold resolves; rw [a.res f, ih]; rfl
theorem ce_op1 {Q : QE D τ} {g : D → Option D} {o : Opd} {d d' : D} (h : Rs p o d) (hg : g d = some d') (q : Q d' p r) : CE (doOp1 g o) p r Q := fun e f => .inr (.inl ⟨d', e, p, by unfold doOp1; rw [h.res f, Option.bind_some, hg], f, q⟩)
theorem ce_op2 {Q : QE D τ} {g : D → D → Option D} {o1 o2 : Opd} {d1 d2 d' : D} (h1 : Rs p o1 d1) (h2 : Rs p o2 d2) (hg : g d1 d2 = some d') (q : Q d' p r) : CE (doOp2 g o1 o2) p r Q := fun e f => .inr (.inl ⟨d', e, p, by unfold doOp2; rw [h1.res f, h2.res f, Option.bind_some, Option.bind_some, hg], f, q⟩)
theorem ce_opN {Q : QE D τ} {g : List D → Option D} {os : List Opd} {ds : List D} {d' : D} (h : Rss p os ds) (hg : g ds = some d') (q : Q d' p r) : CE (doOpN g os) p r Q := fun e f => .inr (.inl ⟨d', e, p, by unfold doOpN; rw [h.res f, Option.bind_some, hg], f, q⟩)
theorem ce_asB {Q : QE Bool τ} {b : Bool} (q : Q b p r) : CE (asB (.bool b)) p r Q := fun e f => .inr (.inl ⟨b, e, p, rfl, f, q⟩)
/-! ### by the form -/
abbrev EE (P : PgI) (cf : Nat → List D → FRes) (ie : IE) (p : Pat) (r : R τ) (Q : QE D τ) : Prop := CE (den P cf ie).e p r Q
abbrev EO (P : PgI) (cf : Nat → List D → FRes) (ie : IE) (p : Pat) (r : R τ) (Q : QE Opd τ) : Prop := CE (den P cf ie).o p r Q
abbrev EA (P : PgI) (cf : Nat → List D → FRes) (ie : IE) (p : Pat) (r : R τ) (Q : QE (List Opd) τ) : Prop := CE (den P cf ie).a p r Q
abbrev ES (P : PgI) (cf : Nat → List D → FRes) (ie : IE) (p : Pat) (r : R τ) (Q : QE Src τ) : Prop := CE (den P cf ie).s p r Q
abbrev EB (P : PgI) (cf : Nat → List D → FRes) (ie : IE) (p : Pat) (r : R τ) (Q : QE Bool τ) : Prop := CE (den P cf ie).b p r Q
variable {a b c : IE} {es : IE}
theorem e_lit {Q : QE D τ} {d : D} (q : Q d p r) : EE P cf (.lit d) p r Q := ce_pure q
theorem e_var {Q : QE D τ} {i : Nat} {d : D} (h : p[i]? = some (some (.val d))) (q : Q d p r) : EE P cf (.var i) p r Q := ce_get h q
theorem e_frzo {Q : QE D τ} {i : Nat} {d : D} (h : p[i]? = some (some (.own d))) (q : Q d (p.set i (some (.val d))) r) : EE P cf (.frz i) p r Q := ce_frzo h q
theorem e_frzv {Q : QE D τ} {i : Nat} {d : D} (h : p[i]? = some (some (.val d))) (q : Q d p r) : EE P cf (.frz i) p r Q := ce_frzv h q
theorem e_glob {Q : QE D τ} {x : Str} {d : D} (h : P.gl.lookup x = some d) (q : Q d p r) : EE P cf (.glob x) p r Q := by
  show CE (M.of (P.gl.lookup x)) p r Q
  rw [h]
  exact ce_pure q
theorem o_val {Q : QE Opd τ} {i : Nat} {d : D} (h : p[i]? = some (some (.val d))) (q : Q (.inl d) p r) : EO P cf (.var i) p r Q := ce_geto h q
theorem o_own {Q : QE Opd τ} {i : Nat} {d : D} (h : p[i]? = some (some (.own d))) (q : Q (.inr i) p r) : EO P cf (.var i) p r Q := ce_getown h q
theorem o_io {Q : QE Opd τ} {i : Nat} {d : D} (h : p[i]? = some (some (.io d))) (q : Q (.inr i) p r) : EO P cf (.var i) p r Q := ce_getio h q
def isOf : IE → Bool
  | .var _ => false
  | .nil => false
  | .cons .. => false
  | .rng _ => false
  | .zip2 _ => false
  | _ => true
theorem of_e {ie : IE} (h : isOf ie = true) : (den P cf ie).o = M.bind (den P cf ie).e (fun d => M.pure (.inl d)) ∧ (den P cf ie).s = M.bind (M.bind (den P cf ie).e fun d => M.pure (.inl d)) asSrc := by
  cases ie <;> first | (cases h; done) | exact ⟨rfl, rfl⟩
theorem o_e {Q : QE Opd τ} {ie : IE} (h : isOf ie = true) (q : EE P cf ie p r fun d p' r' => Q (.inl d) p' r') : EO P cf ie p r Q := by
  unfold EO
  rw [(of_e h).1]
  exact ce_bind fun e f => by
    rcases q e f with q | ⟨x, e1, p1, h1, h2, h3⟩ | q
    · exact .inl q
    · exact .inr (.inl ⟨x, e1, p1, h1, h2, ce_pure h3⟩)
    · exact .inr (.inr q)
theorem s_e {Q : QE Src τ} {ie : IE} (h : isOf ie = true) (q : EE P cf ie p r fun d p' r' => CE (asSrc (.inl d)) p' r' Q) : ES P cf ie p r Q := by
  unfold ES
  rw [(of_e h).2]
  refine ce_bind (ce_bind fun e f => ?_)
  rcases q e f with q | ⟨x, e1, p1, h1, h2, h3⟩ | q
  · exact .inl q
  · exact .inr (.inl ⟨x, e1, p1, h1, h2, ce_pure h3⟩)
  · exact .inr (.inr q)
theorem s_list {Q : QE Src τ} {ds : List D} (q : Q (ds, none) p r) : CE (asSrc (.inl (.list ds))) p r Q := fun e f => .inr (.inl ⟨_, e, p, rfl, f, q⟩)
theorem s_tuple {Q : QE Src τ} {ds : List D} (q : Q (ds, none) p r) : CE (asSrc (.inl (.tuple ds))) p r Q := fun e f => .inr (.inl ⟨_, e, p, rfl, f, q⟩)
theorem s_var {Q : QE Src τ} {i : Nat} (q : EO P cf (.var i) p r fun o p' r' => CE (asSrc o) p' r' Q) : ES P cf (.var i) p r Q := ce_bind q
theorem s_own {Q : QE Src τ} {i : Nat} {ds : List D} (h : p[i]? = some (some (.own (.list ds)))) (q : Q (ds, some i) p r) : CE (asSrc (.inr i)) p r Q := fun e f => .inr (.inl ⟨_, e, p, by show (match e[i]?.bind Slot.mine? with | some (PyData.list ds) => Res.ok (ds, some i) e | _ => Res.stuck) = _; rw [fit_get f h]; rfl, f, q⟩)
theorem a_nil {Q : QE (List Opd) τ} (q : Q [] p r) : EA P cf .nil p r Q := ce_pure q
theorem a_cons {Q : QE (List Opd) τ} (q : EO P cf a p r fun o p1 r1 => EA P cf b p1 r1 fun os p2 r2 => Q (o :: os) p2 r2) : EA P cf (.cons a b) p r Q := ce_bind fun e f => by
  rcases q e f with q | ⟨x, e1, p1, h1, h2, h3⟩ | q
  · exact .inl q
  · refine .inr (.inl ⟨x, e1, p1, h1, h2, ce_bind fun e f => ?_⟩)
    rcases h3 e f with q | ⟨y, e2, p2, k1, k2, k3⟩ | q
    · exact .inl q
    · exact .inr (.inl ⟨y, e2, p2, k1, k2, ce_pure k3⟩)
    · exact .inr (.inr q)
  · exact .inr (.inr q)
theorem e_bin {Q : QE D τ} {o : BOp} (q : EO P cf a p r fun o1 p1 r1 => EO P cf b p1 r1 fun o2 p2 r2 => CE (doOp2 o.f o1 o2) p2 r2 Q) : EE P cf (.bin o a b) p r Q := ce_bind fun e f => by
  rcases q e f with q | ⟨x, e1, p1, h1, h2, h3⟩ | q
  · exact .inl q
  · exact .inr (.inl ⟨x, e1, p1, h1, h2, ce_bind h3⟩)
  · exact .inr (.inr q)
theorem e_cmp {Q : QE D τ} {o : COp} (q : EO P cf a p r fun o1 p1 r1 => EO P cf b p1 r1 fun o2 p2 r2 => CE (doOp2 o.f o1 o2) p2 r2 Q) : EE P cf (.cmp o a b) p r Q := ce_bind fun e f => by
  rcases q e f with q | ⟨x, e1, p1, h1, h2, h3⟩ | q
  · exact .inl q
  · exact .inr (.inl ⟨x, e1, p1, h1, h2, ce_bind h3⟩)
  · exact .inr (.inr q)
theorem e_ix {Q : QE D τ} (q : EO P cf a p r fun o1 p1 r1 => EO P cf b p1 r1 fun o2 p2 r2 => CE (doOp2 ixD o1 o2) p2 r2 Q) : EE P cf (.ix a b) p r Q := ce_bind fun e f => by
  rcases q e f with q | ⟨x, e1, p1, h1, h2, h3⟩ | q
  · exact .inl q
  · exact .inr (.inl ⟨x, e1, p1, h1, h2, ce_bind h3⟩)
  · exact .inr (.inr q)
theorem e_cat {Q : QE D τ} (q : EO P cf a p r fun o1 p1 r1 => EO P cf b p1 r1 fun o2 p2 r2 => CE (doOp2 catD o1 o2) p2 r2 Q) : EE P cf (.cat a b) p r Q := ce_bind fun e f => by
  rcases q e f with q | ⟨x, e1, p1, h1, h2, h3⟩ | q
  · exact .inl q
  · exact .inr (.inl ⟨x, e1, p1, h1, h2, ce_bind h3⟩)
  · exact .inr (.inr q)
theorem e_lrg {Q : QE D τ} (q : EO P cf a p r fun o1 p1 r1 => EO P cf b p1 r1 fun o2 p2 r2 => CE (doOp2 lrgD o1 o2) p2 r2 Q) : EE P cf (.lrg a b) p r Q := ce_bind fun e f => by
  rcases q e f with q | ⟨x, e1, p1, h1, h2, h3⟩ | q
  · exact .inl q
  · exact .inr (.inl ⟨x, e1, p1, h1, h2, ce_bind h3⟩)
  · exact .inr (.inr q)
theorem e_lzp {Q : QE D τ} (q : EO P cf a p r fun o1 p1 r1 => EO P cf b p1 r1 fun o2 p2 r2 => CE (doOp2 lzpD o1 o2) p2 r2 Q) : EE P cf (.lzp a b) p r Q := ce_bind fun e f => by
  rcases q e f with q | ⟨x, e1, p1, h1, h2, h3⟩ | q
  · exact .inl q
  · exact .inr (.inl ⟨x, e1, p1, h1, h2, ce_bind h3⟩)
  · exact .inr (.inr q)
theorem e_neg {Q : QE D τ} (q : EO P cf a p r fun o p1 r1 => CE (doOp1 negD o) p1 r1 Q) : EE P cf (.neg a) p r Q := ce_bind q
theorem e_rev {Q : QE D τ} (q : EO P cf a p r fun o p1 r1 => CE (doOp1 revD o) p1 r1 Q) : EE P cf (.rev a) p r Q := ce_bind q
theorem e_srt {Q : QE D τ} (q : EO P cf a p r fun o p1 r1 => CE (doOp1 srtD o) p1 r1 Q) : EE P cf (.srt a) p r Q := ce_bind q
theorem e_isi1 {Q : QE D τ} {t : Ty5} (q : EO P cf a p r fun o p1 r1 => CE (Tp.isi1 t o) p1 r1 Q) : EE P cf (.isi1 t a) p r Q := ce_bind q
theorem e_isi2 {Q : QE D τ} {t u : Ty5} (q : EO P cf a p r fun o p1 r1 => CE (Tp.isi2 t u o) p1 r1 Q) : EE P cf (.isi2 t u a) p r Q := ce_bind q
theorem e_tup {Q : QE D τ} (q : EA P cf es p r fun os p1 r1 => CE (mkTup os) p1 r1 Q) : EE P cf (.tup es) p r Q := ce_bind q
theorem e_lst {Q : QE D τ} (q : EA P cf es p r fun os p1 r1 => CE (mkLst os) p1 r1 Q) : EE P cf (.lst es) p r Q := ce_bind q
theorem e_bi {Q : QE D τ} {o : Bi} (q : EA P cf es p r fun os p1 r1 => CE (doOpN o.f os) p1 r1 Q) : EE P cf (.bi o es) p r Q := ce_bind q
theorem e_call {Q : QE D τ} {g : Nat} {i : FnI} (h : P.fn g = some i) (q : EA P cf es p r fun os p1 r1 => CE (callM i.io (cf g) os) p1 r1 Q) : EE P cf (.call g es) p r Q := by
  unfold EE den
  simp only [h]
  exact ce_bind q
theorem e_look {Q : QE D τ} {g : Nat} (q : EA P cf es p r fun os p1 r1 => CE (callS (cf g) os) p1 r1 Q) : EE P cf (.look g es) p r Q := ce_bind q
inductive Pl : List Opd → List D → Prop
  | nil : Pl [] []
  | cons {d : D} {os : List Opd} {ds : List D} : Pl os ds → Pl (.inl d :: os) (d :: ds)
theorem Pl.eq {os : List Opd} {ds : List D} (h : Pl os ds) : plains os = some ds := by
  induction h with
  | nil => rfl
  | cons a ih => unfold plains; rw [ih]; rfl
theorem ce_tup {Q : QE D τ} {os : List Opd} {ds : List D} (h : Pl os ds) (hl : decide (ds.length ≤ 60) = true) (q : Q (.tuple ds) p r) : CE (mkTup os) p r Q := fun e f => .inr (.inl ⟨.tuple ds, e, p, by
  unfold mkTup
  rw [h.eq]
  simp only
  rw [if_pos (Nat.le_trans (of_decide_eq_true hl) (by decide))], f, q⟩)
theorem ce_lst {Q : QE D τ} {os : List Opd} {ds : List D} (h : Pl os ds) (hl : decide (ds.length ≤ 60) = true) (q : Q (.list ds) p r) : CE (mkLst os) p r Q := fun e f => .inr (.inl ⟨.list ds, e, p, by
  unfold mkLst
  rw [h.eq]
  simp only
  rw [if_pos (Nat.le_trans (of_decide_eq_true hl) (by decide))], f, q⟩)
theorem b_e {Q : QE Bool τ} {ie : IE} (q : EE P cf ie p r fun d p1 r1 => CE (asB d) p1 r1 Q) : EB P cf ie p r Q := ce_bind q
theorem e_not {Q : QE D τ} (q : EB P cf a p r fun k p1 r1 => Q (.bool !k) p1 r1) : EE P cf (.not_ a) p r Q := ce_bind fun e f => by
  rcases q e f with q | ⟨x, e1, p1, h1, h2, h3⟩ | q
  · exact .inl q
  · exact .inr (.inl ⟨x, e1, p1, h1, h2, ce_pure h3⟩)
  · exact .inr (.inr q)
theorem e_and {Q : QE D τ} (q : CE (den P cf es).ands p r Q) : EE P cf (.and_ es) p r Q := q
theorem e_or {Q : QE D τ} (q : CE (den P cf es).ors p r Q) : EE P cf (.or_ es) p r Q := q
theorem and_1 {Q : QE D τ} (q : EE P cf a p r Q) : CE (den P cf (.cons a .nil)).ands p r Q := q
theorem or_1 {Q : QE D τ} (q : EE P cf a p r Q) : CE (den P cf (.cons a .nil)).ors p r Q := q
/-- the rest by itself, at once -/
theorem and_v {Q : QE D τ} {b1 b2 : IE} {y : Bool → Bool} (q : EB P cf a p r fun k p1 r1 => (k = true → CE (den P cf (.cons b1 b2)).ands p1 (R.ok ()) fun d p' (_ : R Unit) => d = .bool (y k) ∧ Weak p' p1) ∧ Q (.bool (k && y k)) p1 r1) : CE (den P cf (.cons a (.cons b1 b2))).ands p r Q := by
  show CE (M.bind (den P cf a).b fun k => if k = true then (den P cf (.cons b1 b2)).ands else M.pure (.bool false)) p r Q
  refine ce_bind fun e f => ?_
  rcases q e f with q | ⟨k, e1, p1, h1, h2, h3, h4⟩ | q
  · exact .inl q
  · refine .inr (.inl ⟨k, e1, p1, h1, h2, ?_⟩)
    cases k with
    | false => exact ce_pure h4
    | true =>
      rw [if_pos rfl]
      exact ce_val (h3 rfl) (by simpa using h4)
  · exact .inr (.inr q)
theorem or_v {Q : QE D τ} {b1 b2 : IE} {y : Bool → Bool} (q : EB P cf a p r fun k p1 r1 => (k = false → CE (den P cf (.cons b1 b2)).ors p1 (R.ok ()) fun d p' (_ : R Unit) => d = .bool (y k) ∧ Weak p' p1) ∧ Q (.bool (k || y k)) p1 r1) : CE (den P cf (.cons a (.cons b1 b2))).ors p r Q := by
  show CE (M.bind (den P cf a).b fun k => if k = true then M.pure (.bool true) else (den P cf (.cons b1 b2)).ors) p r Q
  refine ce_bind fun e f => ?_
  rcases q e f with q | ⟨k, e1, p1, h1, h2, h3, h4⟩ | q
  · exact .inl q
  · refine .inr (.inl ⟨k, e1, p1, h1, h2, ?_⟩)
    cases k with
    | true => exact ce_pure h4
    | false =>
      rw [if_neg (by simp)]
      exact ce_val (h3 rfl) (by simpa using h4)
  · exact .inr (.inr q)
/-- .. by cases -/
theorem and_c {Q : QE D τ} {b1 b2 : IE} (q : EB P cf a p r fun k p1 r1 => ∃ ra rb, r1 = (if k = true then ra else rb) ∧ (k = true → CE (den P cf (.cons b1 b2)).ands p1 ra Q) ∧ (k = false → Q (.bool false) p1 rb)) : CE (den P cf (.cons a (.cons b1 b2))).ands p r Q := by
  show CE (M.bind (den P cf a).b fun k => if k = true then (den P cf (.cons b1 b2)).ands else M.pure (.bool false)) p r Q
  refine ce_bind fun e f => ?_
  rcases q e f with q | ⟨k, e1, p1, h1, h2, ra, rb, rfl, h3, h4⟩ | q
  · exact .inl q
  · refine .inr (.inl ⟨k, e1, p1, h1, h2, ?_⟩)
    cases k with
    | false => exact ce_pure (h4 rfl)
    | true => exact h3 rfl
  · exact .inr (.inr q)
theorem or_c {Q : QE D τ} {b1 b2 : IE} (q : EB P cf a p r fun k p1 r1 => ∃ ra rb, r1 = (if k = true then ra else rb) ∧ (k = true → Q (.bool true) p1 ra) ∧ (k = false → CE (den P cf (.cons b1 b2)).ors p1 rb Q)) : CE (den P cf (.cons a (.cons b1 b2))).ors p r Q := by
  show CE (M.bind (den P cf a).b fun k => if k = true then M.pure (.bool true) else (den P cf (.cons b1 b2)).ors) p r Q
  refine ce_bind fun e f => ?_
  rcases q e f with q | ⟨k, e1, p1, h1, h2, ra, rb, rfl, h3, h4⟩ | q
  · exact .inl q
  · refine .inr (.inl ⟨k, e1, p1, h1, h2, ?_⟩)
    cases k with
    | true => exact ce_pure (h3 rfl)
    | false => exact h4 rfl
  · exact .inr (.inr q)
theorem e_ifx {Q : QE D τ} (q : EB P cf c p r fun k p1 r1 => ∃ ra rb, r1 = (if k = true then ra else rb) ∧ (k = true → EE P cf a p1 ra Q) ∧ (k = false → EE P cf b p1 rb Q)) : EE P cf (.ifx c a b) p r Q := by
  show CE (M.bind (den P cf c).b fun k => if k = true then (den P cf a).e else (den P cf b).e) p r Q
  refine ce_bind fun e f => ?_
  rcases q e f with q | ⟨k, e1, p1, h1, h2, ra, rb, rfl, h3, h4⟩ | q
  · exact .inl q
  · refine .inr (.inl ⟨k, e1, p1, h1, h2, ?_⟩)
    cases k with
    | true => exact h3 rfl
    | false => exact h4 rfl
  · exact .inr (.inr q)
theorem e_chain {Q : QE D τ} {o o' : COp} (q : EO P cf a p r fun o1 p1 r1 => EO P cf b p1 r1 fun o2 p2 r2 => CE (doOp2 o.f o1 o2) p2 r2 fun d p3 r3 => CE (asB d) p3 r3 fun k p4 r4 => ∃ y : Bool → Bool, (k = true → EO P cf c p4 (R.ok ()) fun o3 p5 (r5 : R Unit) => CE (doOp2 o'.f o2 o3) p5 r5 fun d p6 (_ : R Unit) => d = .bool (y k) ∧ Weak p6 p4) ∧ Q (.bool (k && y k)) p4 r4) : EE P cf (.chain o o' a b c) p r Q := by
  show CE (M.bind (den P cf a).o fun o1 => M.bind (den P cf b).o fun o2 => M.bind (M.bind (doOp2 o.f o1 o2) asB) fun k => if k = true then M.bind (den P cf c).o fun o3 => doOp2 o'.f o2 o3 else M.pure (.bool false)) p r Q
  refine ce_bind fun e f => ?_
  rcases q e f with q | ⟨x, e1, p1, h1, h2, h3⟩ | q
  · exact .inl q
  · refine .inr (.inl ⟨x, e1, p1, h1, h2, ce_bind fun e f => ?_⟩)
    rcases h3 e f with q | ⟨y, e2, p2, j1, j2, j3⟩ | q
    · exact .inl q
    · refine .inr (.inl ⟨y, e2, p2, j1, j2, ce_bind (ce_bind fun e f => ?_)⟩)
      rcases j3 e f with q | ⟨y, e2, p2, k1, k2, k3⟩ | q
      · exact .inl q
      · refine .inr (.inl ⟨y, e2, p2, k1, k2, fun e f => ?_⟩)
        rcases k3 e f with q | ⟨k, e2, p2, k1, k2, z, k4, k5⟩ | q
        · exact .inl q
        · refine .inr (.inl ⟨k, e2, p2, k1, k2, ?_⟩)
          cases k with
          | false => exact ce_pure (by simpa using k5)
          | true =>
            rw [if_pos rfl]
            exact ce_val (ce_bind (k4 rfl)) (by simpa using k5)
        · exact .inr (.inr q)
      · exact .inr (.inr q)
    · exact .inr (.inr q)
  · exact .inr (.inr q)
/-! ### calls -/
inductive Mn (p : Pat) (i : Nat) : D → (D → Slot) → Prop
  | own {d : D} : p[i]? = some (some (.own d)) → Mn p i d .own
  | io {d : D} : p[i]? = some (some (.io d)) → Mn p i d .io
theorem Mn.get {i : Nat} {d : D} {w : D → Slot} {e : Env} (h : Mn p i d w) (f : Fit p e) : e[i]?.bind Slot.mine? = some d ∧ ∀ d', putMine e i d' = e.set i (w d') := by
  cases h with
  | own h => rw [fit_get f h]; exact ⟨rfl, fun d' => by unfold putMine; rw [fit_get f h]⟩
  | io h => rw [fit_get f h]; exact ⟨rfl, fun d' => by unfold putMine; rw [fit_get f h]⟩
/-- a def gives what a plain function gives -/
def Sim {α : Type} (f : FRes) (r : R α) (en out : α → D) : Prop := match r with
  | .ok a => f = .ok (en a) (out a)
  | .exc c x => ∃ out, f = .exc c x out
  | .bad => True
def noneD {α : Type} : α → D := fun _ => .none
theorem ce_call {Q : QE D τ} {f : List D → FRes} {os : List Opd} {ds : List D} {r1 : R α} {k : α → R τ} {en : α → D} (h : Pl os ds) (hs : Sim (f ds) r1 en noneD) (q : ∀ y, Q (en y) p (k y)) : CE (callM none f os) p (R.bind r1 k) Q := fun e fi => by
  have ha : argD none os e = some ds := h.eq
  cases r1 with
  | ok y =>
    have hs : f ds = .ok (en y) .none := hs
    exact .inr (.inl ⟨en y, e, p, by unfold callM; rw [ha]; simp only [hs]; rfl, fi, q y⟩)
  | exc c x =>
    obtain ⟨o, hs⟩ := hs
    exact .inr (.inr ⟨c, x, e, by unfold callM; rw [ha]; simp only [hs]; rfl, rfl⟩)
  | bad => exact .inl rfl
/-- the argument at the place j is one's own object at the slot i -/
inductive Ar (i : Nat) (d0 : D) : Nat → List Opd → List D → Prop
  | here {os : List Opd} {ds : List D} : Pl os ds → Ar i d0 0 (.inr i :: os) (d0 :: ds)
  | next {j : Nat} {d : D} {os : List Opd} {ds : List D} : Ar i d0 j os ds → Ar i d0 (j + 1) (.inl d :: os) (d :: ds)
theorem Ar.eq {i j : Nat} {d0 : D} {os : List Opd} {ds : List D} {e : Env} (h : Ar i d0 j os ds) (he : e[i]?.bind Slot.mine? = some d0) : argN j os e = some ds ∧ ioSlot (some j) os = some i := by
  induction h with
  | here h => exact ⟨by unfold argN; rw [he, Option.bind_some, h.eq]; rfl, rfl⟩
  | next h ih =>
    refine ⟨by unfold argN; rw [ih.1]; rfl, ?_⟩
    have := ih.2
    unfold ioSlot at this ⊢
    simpa using this
/-- .. of what was handed in to be changed; exceptions are not told -/
def SimI {α : Type} (f : FRes) (r : R α) (en out : α → D) : Prop := ∀ a, r = .ok a → f = .ok (en a) (out a)
theorem Sim.io {α : Type} {f : FRes} {r : R α} {en out : α → D} (h : Sim f r en out) : SimI f r en out := fun a e => by subst e; exact h
theorem ce_callI {Q : QE D τ} {f : List D → FRes} {os : List Opd} {ds : List D} {r1 : R α} {k : α → R τ} {en out : α → D} {i j : Nat} {d0 : D} {w : D → Slot} (hp : Mn p i d0 w) (h : Ar i d0 j os ds) (hs : SimI (f ds) r1 en out) (q : ∀ y, Q (en y) (p.set i (some (w (out y)))) (k y)) : CE (callM (some j) f os) p (R.draw r1 k) Q := fun e fi => by
  obtain ⟨he, hm⟩ := hp.get fi
  obtain ⟨ha, hb⟩ := h.eq (e := e) he
  have ha : argD (some j) os e = some ds := ha
  cases r1 with
  | ok y =>
    have hs : f ds = .ok (en y) (out y) := hs y rfl
    exact .inr (.inl ⟨en y, e.set i (w (out y)), _, by unfold callM; rw [ha]; simp only [hs, hb, hm], fit_set fi, q y⟩)
  | exc c x => exact .inl rfl
  | bad => exact .inl rfl
theorem ce_look {Q : QE D τ} {f : List D → FRes} {os : List Opd} {ds : List D} {r1 : R α} {k : α → R τ} {en : α → D} (h : Rss p os ds) (hs : Sim (f ds) r1 en noneD) (hf : ∀ y, flat (en y) = true) (q : ∀ y, Q (en y) p (k y)) : CE (callS f os) p (R.draw r1 k) Q := fun e fi => by
  have ha := h.res fi
  cases r1 with
  | ok y =>
    have hs : f ds = .ok (en y) .none := hs
    exact .inr (.inl ⟨en y, e, p, by unfold callS; rw [ha]; simp only [hs, hf y, if_true], fi, q y⟩)
  | exc c x => exact .inl rfl
  | bad => exact .inl rfl
end
end Tp
/-! Ts3: the rules of comprehensions and statements, the ends of defs. -/
namespace Tp
open PySem
/-! ### plain loops -/
def mapR {α β : Type} (f : α → R β) : List α → R (List β)
  | [] => .ok []
  | a :: l => match f a with | .ok b => (mapR f l).bind fun bs => .ok (b :: bs) | _ => .bad
def filR {α β : Type} (f : α → R (Option β)) : List α → R (List β)
  | [] => .ok []
  | a :: l => match f a with | .ok (some b) => (filR f l).bind fun bs => .ok (b :: bs) | .ok none => filR f l | _ => .bad
def mapS {α β σ : Type} (f : α → σ → R (β × σ)) : List α → σ → R (List β × σ)
  | [], s => .ok ([], s)
  | a :: l, s => match f a s with | .ok (b, s') => (mapS f l s').bind fun q => .ok (b :: q.1, q.2) | _ => .bad
def forT {α σ : Type} (b : α → σ → R σ) : List α → σ → R σ
  | [], s => .ok s
  | a :: l, s => (b a s).bind fun s' => forT b l s'
inductive Ctl (σ ρ : Type) where
  | nx (s : σ) | bk (s : σ) | rt (a : ρ)
def forC {α σ ρ : Type} (b : α → σ → R (Ctl σ ρ)) : List α → σ → R (Ctl σ ρ)
  | [], s => .ok (.nx s)
  | a :: l, s => (b a s).bind fun o => match o with | .nx s' => forC b l s' | .bk s' => .ok (.nx s') | .rt x => .ok (.rt x)
def whT {σ : Type} (t : σ → R Bool) (b : σ → R σ) : Nat → σ → R σ
  | 0, _ => .bad
  | n + 1, s => (t s).bind fun c => if c = true then (b s).bind fun s' => whT t b n s' else .ok s
def whC {σ ρ : Type} (t : σ → R Bool) (b : σ → R (Ctl σ ρ)) : Nat → σ → R (Ctl σ ρ)
  | 0, _ => .bad
  | n + 1, s => (t s).bind fun c => if c = true then (b s).bind fun o => match o with | .nx s' => whC t b n s' | .bk s' => .ok (.nx s') | .rt x => .ok (.rt x) else .ok (.nx s)
def R.ctl {σ ρ τ : Type} (r : R (Ctl σ ρ)) (k : σ → R τ) (f : ρ → τ) : R τ := r.bind fun o => match o with | .nx s => k s | .bk s => k s | .rt a => .ok (f a)
@[simp] theorem R.ctl_nx {σ ρ τ : Type} (s : σ) (k : σ → R τ) (f : ρ → τ) : R.ctl (.ok (.nx s)) k f = k s := rfl
@[simp] theorem R.ctl_rt {σ ρ τ : Type} (a : ρ) (k : σ → R τ) (f : ρ → τ) : R.ctl (.ok (.rt a)) k f = .ok (f a) := rfl
def szL {α : Type} (l : List α) : Bool := decide (l.length ≤ sizeLine)
theorem szL_le {α : Type} {l : List α} (h : l.length ≤ 100000) : szL l = true := decide_eq_true (Nat.le_trans h (by decide))
theorem fit_iff : ∀ {p : Pat} {e : Env}, Fit p e ↔ p.length = e.length ∧ (∀ (i : Nat) (s : Slot), p[i]? = some (some s) → e[i]? = some s) ∧ ∀ (i : Nat) (d : D), p[i]? = some none → e[i]? ≠ some (Slot.io d)
  | [], [] => by simp [Fit]
  | [], _ :: _ => by simp [Fit]
  | _ :: _, [] => by simp [Fit]
  | q :: p, t :: e => by
    show (_ ∧ Fit p e) ↔ _
    rw [fit_iff]
    constructor
    · rintro ⟨h1, h2, h3, h4⟩
      refine ⟨by simp [h2], fun i s h => ?_, fun i d h => ?_⟩
      · cases i with
        | zero =>
          simp only [List.getElem?_cons_zero, Option.some.injEq] at h ⊢
          subst h
          exact h1
        | succ i => simpa using h3 i s (by simpa using h)
      · cases i with
        | zero =>
          simp only [List.getElem?_cons_zero, Option.some.injEq] at h
          subst h
          intro z
          exact h1 d (by simpa using z)
        | succ i => simpa using h4 i d (by simpa using h)
    · rintro ⟨h2, h3, h4⟩
      refine ⟨?_, by simpa using h2, fun i s h => by simpa using h3 (i + 1) s (by simp only [List.getElem?_cons_succ]; exact h), fun i d h => by simpa using h4 (i + 1) d (by simp only [List.getElem?_cons_succ]; exact h)⟩
      cases q with
      | none => exact fun d z => h4 0 d rfl (by simp [z])
      | some s => simpa using h3 0 s rfl
def forget (p : Pat) : List Nat → Pat
  | [] => p
  | v :: vs => (forget p vs).set v none
def okOwn (p : Pat) (v : Nat) : Bool := match p[v]? with | some none => true | some (some (.val _)) => true | _ => false
theorem forget_get {p : Pat} : ∀ {vs : List Nat} {i : Nat}, i ∉ vs → (forget p vs)[i]? = p[i]?
  | [], _, _ => rfl
  | v :: vs, i, h => by
    have h1 : i ≠ v := fun z => h (z ▸ List.mem_cons_self)
    unfold forget
    rw [List.getElem?_set_ne (Ne.symm h1), forget_get fun z => h (List.mem_cons_of_mem _ z)]
theorem forget_len {p : Pat} : ∀ {vs : List Nat}, (forget p vs).length = p.length
  | [] => rfl
  | v :: vs => by unfold forget; rw [List.length_set, forget_len]
theorem forget_in {p : Pat} : ∀ {vs : List Nat} {i : Nat}, i ∈ vs → i < p.length → (forget p vs)[i]? = some none
  | [], _, h, _ => by cases h
  | v :: vs, i, h, l => by
    unfold forget
    by_cases z : i = v
    · subst z
      rw [List.getElem?_set_self (by rw [forget_len]; exact l)]
    · rw [List.getElem?_set_ne (Ne.symm z)]
      exact forget_in (by simpa [z] using h) l
theorem okOwn_lt {p : Pat} {v : Nat} (h : okOwn p v = true) : v < p.length := by
  unfold okOwn at h
  cases z : p[v]? with
  | none => rw [z] at h; cases h
  | some x => exact (List.getElem?_eq_some_iff.mp z).1
theorem forget_unk {p : Pat} {vs : List Nat} (h : vs.all (okOwn p) = true) : vs.all (unk (forget p vs)) = true := by
  rw [List.all_eq_true] at h ⊢
  intro v hv
  unfold unk
  rw [forget_in hv (okOwn_lt (h v hv))]
theorem forget_fit {p : Pat} {e : Env} {vs : List Nat} (h : vs.all (okOwn p) = true) (f : Fit p e) : Fit (forget p vs) e := by
  rw [fit_iff] at f ⊢
  obtain ⟨f1, f2, f3⟩ := f
  rw [List.all_eq_true] at h
  refine ⟨by rw [forget_len]; exact f1, fun i s k => ?_, fun i d k => ?_⟩
  · by_cases z : i ∈ vs
    · rw [forget_in z (okOwn_lt (h i z))] at k
      cases k
    · rw [forget_get z] at k
      exact f2 i s k
  · by_cases z : i ∈ vs
    · have := h i z
      unfold okOwn at this
      split at this
      · exact f3 i d (by assumption)
      · rename_i d' k'
        rw [f2 i _ k']
        intro z
        cases z
      · cases this
    · rw [forget_get z] at k
      exact f3 i d k
theorem backE_len {e1 e : Env} : ∀ {vs : List Nat}, (backE e1 e vs).length = e.length
  | [] => rfl
  | v :: vs => by
    unfold backE
    split
    · rw [List.length_set, backE_len]
    · exact backE_len
theorem backE_out {e1 e : Env} : ∀ {vs : List Nat} {i : Nat}, i ∉ vs → (backE e1 e vs)[i]? = e[i]?
  | [], _, _ => rfl
  | v :: vs, i, h => by
    have h1 : i ≠ v := fun z => h (z ▸ List.mem_cons_self)
    have ih := backE_out (e1 := e1) (e := e) (vs := vs) (i := i) fun z => h (List.mem_cons_of_mem _ z)
    unfold backE
    split
    · rw [List.getElem?_set_ne (Ne.symm h1), ih]
    · exact ih
theorem backE_in {e1 e : Env} : ∀ {vs : List Nat} {i : Nat}, i ∈ vs → i < e.length → (∀ d, e1[i]? = some (.val d) → (backE e1 e vs)[i]? = some (.val d)) ∧ ((∀ d, e1[i]? ≠ some (.val d)) → (backE e1 e vs)[i]? = e[i]?)
  | [], _, h, _ => by cases h
  | v :: vs, i, h, l => by
    by_cases z : i = v
    · subst z
      refine ⟨fun d hd => ?_, fun hn => ?_⟩
      · unfold backE
        rw [hd]
        simp only
        rw [List.getElem?_set_self (by rw [backE_len]; exact l)]
      · unfold backE
        split
        · rename_i d hd
          exact absurd hd (hn d)
        · by_cases y : i ∈ vs
          · exact (backE_in y l).2 hn
          · exact backE_out y
    · have hi : i ∈ vs := by simpa [z] using h
      have ih := backE_in (e1 := e1) (e := e) hi l
      unfold backE
      split
      · rw [List.getElem?_set_ne (Ne.symm z)]
        exact ih
      · exact ih
theorem back_fit {p : Pat} {e1 e2 : Env} {vs : List Nat} (h : vs.all (okOwn p) = true) (f1 : Fit p e1) (f2 : Fit (forget p vs) e2) : Fit p (backE e1 e2 vs) := by
  rw [fit_iff] at f1 f2 ⊢
  obtain ⟨a1, a2, a3⟩ := f1
  obtain ⟨b1, b2, b3⟩ := f2
  rw [List.all_eq_true] at h
  rw [forget_len] at b1
  refine ⟨by rw [backE_len]; exact b1, fun i s k => ?_, fun i d k => ?_⟩
  · by_cases z : i ∈ vs
    · have := h i z
      unfold okOwn at this
      rw [k] at this
      cases s with
      | val d => exact (backE_in z (by rw [← b1]; exact okOwn_lt (h i z))).1 d (a2 i _ k)
      | _ => cases this
    · rw [backE_out z]
      exact b2 i s (by rw [forget_get z]; exact k)
  · by_cases z : i ∈ vs
    · have hl : i < e2.length := by rw [← b1]; exact okOwn_lt (h i z)
      have hf := b3 i d (forget_in z (okOwn_lt (h i z)))
      by_cases y : ∃ d', e1[i]? = some (.val d')
      · obtain ⟨d', y⟩ := y
        rw [(backE_in z hl).1 d' y]
        intro q
        cases q
      · rw [(backE_in z hl).2 fun d' q => y ⟨d', q⟩]
        exact hf
    · rw [backE_out z]
      exact b3 i d (by rw [forget_get z]; exact k)
def lcTail (t : Tgt) (own : List Nat) (mc : M Bool) (me : M D) (p : Src) : M D := fun e1 =>
  if p.1.length ≤ sizeLine ∧ srcOk p own = true then
    match (wipeE e1 own).bind (lcLoop t own mc me p.1) with
    | some (ds, e2) => .ok (.list ds) (backE e1 e2 own)
    | none => .stuck
  else .stuck
section
variable {α β γ τ σ ρ : Type} {p p' : Pat} {r : R τ} {P : PgI} {cf : Nat → List D → FRes}
abbrev condM (P : PgI) (cf : Nat → List D → FRes) (cond : IE) : M Bool := if isNil cond then M.pure true else (den P cf cond).b
theorem noOwn_ok {m : M Src} {e e' : Env} {s : List D} (h : m e = .ok (s, none) e') : noOwn m e = .ok (s, none) e' := by
  unfold noOwn M.bind
  rw [h]
  rfl
theorem e_lc {Q : QE D τ} {t : Tgt} {own : List Nat} {elt iter cond : IE} (q : ES P cf iter p r fun src p1 r1 => src.2 = none ∧ CE (lcTail t own (condM P cf cond) (den P cf elt).e src) p1 r1 Q) : EE P cf (.lc t own elt iter cond) p r Q := by
  show CE (M.bind (if pureIE P elt && pureIE P cond then (den P cf iter).s else noOwn (den P cf iter).s) (lcTail t own (condM P cf cond) (den P cf elt).e)) p r Q
  refine ce_bind fun e f => ?_
  rcases q e f with q | ⟨⟨s, j⟩, e1, p1, h1, h2, h3, h4⟩ | ⟨c, x, e1, h1, h2⟩
  · exact .inl q
  · have h3 : j = none := h3
    subst h3
    refine .inr (.inl ⟨(s, none), e1, p1, ?_, h2, h4⟩)
    split
    · exact h1
    · exact noOwn_ok h1
  · refine .inr (.inr ⟨c, x, e1, ?_, h2⟩)
    split
    · exact h1
    · unfold noOwn M.bind
      rw [h1]
theorem e_lcO {Q : QE D τ} {t : Tgt} {own : List Nat} {elt iter cond : IE} (hp : (pureIE P elt && pureIE P cond) = true) (q : ES P cf iter p r fun src p1 r1 => CE (lcTail t own (condM P cf cond) (den P cf elt).e src) p1 r1 Q) : EE P cf (.lc t own elt iter cond) p r Q := by
  show CE (M.bind (if pureIE P elt && pureIE P cond then (den P cf iter).s else noOwn (den P cf iter).s) (lcTail t own (condM P cf cond) (den P cf elt).e)) p r Q
  rw [hp, if_pos rfl]
  exact ce_bind q
/-- an element of a comprehension -/
def Elt (mc : M Bool) (me : M D) (pf pb : Pat) (v : β → D) (r : R (Option β)) : Prop := CE mc pb r fun b p2 r2 => (b = true → CE me p2 r2 fun d p3 r3 => ∃ y, d = v y ∧ r3 = .ok (some y) ∧ Weak p3 pf) ∧ (b = false → r2 = .ok none ∧ Weak p2 pf)
theorem lc_fil {t : Tgt} {own : List Nat} {mc : M Bool} {me : M D} {pf : Pat} {g : α → D} {v : β → D} {f : α → R (Option β)} (hu : own.all (unk pf) = true) (he : ∀ a, ∃ pb, bindP t (g a) pf = some pb ∧ Elt mc me pf pb v (f a)) : ∀ {l : List α} {e : Env} {ys : List β}, Fit pf e → filR f l = .ok ys → ∃ e', lcLoop t own mc me (l.map g) e = some (ys.map v, e') ∧ Fit pf e'
  | [], e, ys, h, hf => by
    cases hf
    exact ⟨e, rfl, h⟩
  | a :: l, e, ys, h, hf => by
    obtain ⟨pb, b1, b2⟩ := he a
    obtain ⟨e3, h1, h2⟩ := bindP_fit b1 h
    unfold filR at hf
    have b2 := b2 e3 h2
    cases hfa : f a with
    | bad => rw [hfa] at hf; cases hf
    | exc c x => rw [hfa] at hf; cases hf
    | ok o =>
      rw [hfa] at hf b2
      rcases b2 with b2 | ⟨b, e4, p4, k1, k2, k3, k4⟩ | ⟨c, x, e4, k1, k2⟩
      · cases b2
      · cases b with
        | true =>
          rcases k3 rfl e4 k2 with k3 | ⟨d, e5, p5, j1, j2, y, rfl, j4, j5⟩ | ⟨c, x, e5, j1, j2⟩
          · cases k3
          · cases j4
            obtain ⟨e6, w1, w2⟩ := wipe_fit hu (j5.fit j2)
            cases hm : filR f l with
            | bad => rw [hm] at hf; cases hf
            | exc c x => rw [hm] at hf; cases hf
            | ok zs =>
              rw [hm] at hf
              cases hf
              obtain ⟨e7, i1, i2⟩ := lc_fil hu he (l := l) w2 hm
              refine ⟨e7, ?_, i2⟩
              rw [List.map_cons]
              unfold lcLoop
              simp only [h1, k1, j1, w1, Option.bind_some, i1, Option.map_some, List.map_cons]
          · cases j2
        | false =>
          obtain ⟨k5, k6⟩ := k4 rfl
          cases k5
          obtain ⟨e6, w1, w2⟩ := wipe_fit hu (k6.fit k2)
          obtain ⟨e7, i1, i2⟩ := lc_fil hu he (l := l) w2 hf
          refine ⟨e7, ?_, i2⟩
          rw [List.map_cons]
          unfold lcLoop
          simp only [h1, k1, w1, Option.bind_some, i1]
      · cases k2
theorem ce_fil {Q : QE D τ} {t : Tgt} {own : List Nat} {mc : M Bool} {me : M D} {src : Src} {l : List α} {g : α → D} {v : β → D} {f : α → R (Option β)} {k : List β → R τ} (hs : src.1 = l.map g) (h2 : srcOk src own = true) (ho : own.all (okOwn p) = true) (he : ∀ a, ∃ pb, bindP t (g a) (forget p own) = some pb ∧ Elt mc me (forget p own) pb v (f a)) (q : ∀ ys, Q (.list (ys.map v)) p (k ys)) : CE (lcTail t own mc me src) p (R.guard (szL l) (R.bind (filR f l) k)) Q := ce_guard fun hz e fi => by
  have hz : l.length ≤ sizeLine := of_decide_eq_true hz
  cases hm : filR f l with
  | bad => exact .inl rfl
  | exc c x =>
    exfalso
    have : ∀ (l : List α), filR f l ≠ .exc c x := by
      intro l
      induction l with
      | nil => intro z; cases z
      | cons a l ih =>
        intro z
        unfold filR at z
        split at z
        · cases hq : filR f l with
          | ok _ => rw [hq] at z; cases z
          | bad => rw [hq] at z; cases z
          | exc _ _ => rw [hq] at z; cases z; exact ih hq
        · exact ih z
        · cases z
    exact this l hm
  | ok ys =>
    obtain ⟨e2, w1, w2⟩ := wipe_fit (forget_unk ho) (forget_fit ho fi)
    obtain ⟨e3, i1, i2⟩ := lc_fil (forget_unk ho) he w2 hm
    refine .inr (.inl ⟨_, backE e e3 own, p, ?_, back_fit ho fi i2, q ys⟩)
    unfold lcTail
    rw [hs, List.length_map, if_pos ⟨hz, h2⟩, w1, Option.bind_some, i1]
theorem filR_map {f : α → R β} : ∀ {l : List α}, filR (fun a => match f a with | .ok b => .ok (some b) | .exc c x => .exc c x | .bad => .bad) l = mapR f l
  | [] => rfl
  | a :: l => by
    unfold filR mapR
    cases f a with
    | ok b => simp only [filR_map]
    | exc _ _ => rfl
    | bad => rfl
theorem ce_map {Q : QE D τ} {t : Tgt} {own : List Nat} {me : M D} {src : Src} {l : List α} {g : α → D} {v : β → D} {f : α → R β} {k : List β → R τ} (hs : src.1 = l.map g) (h2 : srcOk src own = true) (ho : own.all (okOwn p) = true) (he : ∀ a, ∃ pb, bindP t (g a) (forget p own) = some pb ∧ CE me pb (f a) fun d p3 r3 => ∃ y, d = v y ∧ r3 = .ok y ∧ Weak p3 (forget p own)) (q : ∀ ys, Q (.list (ys.map v)) p (k ys)) : CE (lcTail t own (M.pure true) me src) p (R.guard (szL l) (R.bind (mapR f l) k)) Q := by
  rw [← filR_map]
  refine ce_fil hs h2 ho (fun a => ?_) q
  obtain ⟨pb, b1, b2⟩ := he a
  refine ⟨pb, b1, fun e fi => ?_⟩
  rcases b2 e fi with b2 | ⟨x, e1, p1, h1, h2, y, rfl, h4, h5⟩ | ⟨c, x, e1, h1, h2⟩
  · exact .inl (by rw [b2])
  · refine .inr (.inl ⟨true, e, pb, rfl, fi, fun _ => ?_, fun z => by cases z⟩)
    intro e' fi'
    rcases b2 e' fi' with b2 | ⟨x, e1, p1, h1, h2, y, rfl, h4, h5⟩ | ⟨c, x, e1, h1, h2⟩
    · rw [b2] at h4; cases h4
    · exact .inr (.inl ⟨_, e1, p1, h1, h2, y, rfl, by rw [h4], h5⟩)
    · rw [h2] at h4; cases h4
  · refine .inr (.inl ⟨true, e, pb, rfl, fi, fun _ => ?_, fun z => by cases z⟩)
    intro e' fi'
    rcases b2 e' fi' with b2 | ⟨x, e1, p1, h1, h2', y, rfl, h4, h5⟩ | ⟨c', x', e1', h1', h2'⟩
    · rw [b2] at h2; cases h2
    · rw [h4] at h2; cases h2
    · exact .inr (.inr ⟨c', x', e1', h1', by rw [h2']⟩)
/-- elements that change what was handed in -/
theorem lc_mapS {t : Tgt} {own : List Nat} {me : M D} {pf : σ → Pat} {g : α → D} {v : β → D} {f : α → σ → R (β × σ)} (hu : ∀ s, own.all (unk (pf s)) = true) (he : ∀ a s, ∃ pb, bindP t (g a) (pf s) = some pb ∧ CE me pb (f a s) fun d p3 r3 => ∃ y s', d = v y ∧ r3 = .ok (y, s') ∧ Weak p3 (pf s')) : ∀ {l : List α} {e : Env} {s : σ} {ys : List β × σ}, Fit (pf s) e → mapS f l s = .ok ys → ∃ e', lcLoop t own (M.pure true) me (l.map g) e = some (ys.1.map v, e') ∧ Fit (pf ys.2) e'
  | [], e, s, ys, h, hf => by
    cases hf
    exact ⟨e, rfl, h⟩
  | a :: l, e, s, ys, h, hf => by
    obtain ⟨pb, b1, b2⟩ := he a s
    obtain ⟨e3, h1, h2⟩ := bindP_fit b1 h
    unfold mapS at hf
    have b2 := b2 e3 h2
    cases hfa : f a s with
    | bad => rw [hfa] at hf; cases hf
    | exc c x => rw [hfa] at hf; cases hf
    | ok o =>
      rw [hfa] at hf b2
      rcases b2 with k3 | ⟨d, e5, p5, j1, j2, y, s', rfl, j4, j5⟩ | ⟨c, x, e5, j1, j2⟩
      · cases k3
      · cases j4
        obtain ⟨e6, w1, w2⟩ := wipe_fit (hu s') (j5.fit j2)
        simp only at hf
        cases hm : mapS f l s' with
        | bad => rw [hm] at hf; cases hf
        | exc c x => rw [hm] at hf; cases hf
        | ok zs =>
          rw [hm] at hf
          cases hf
          obtain ⟨e7, i1, i2⟩ := lc_mapS hu he (l := l) w2 hm
          refine ⟨e7, ?_, i2⟩
          rw [List.map_cons]
          unfold lcLoop
          simp only [h1, M.pure_ap, j1, w1, Option.bind_some, i1, Option.map_some, List.map_cons]
      · cases j2
theorem ce_mapS {Q : QE D τ} {t : Tgt} {own : List Nat} {me : M D} {src : Src} {l : List α} {g : α → D} {v : β → D} {f : α → σ → R (β × σ)} {s0 : σ} {mk : σ → Pat} {k : List β × σ → R τ} (hs : src.1 = l.map g) (h2 : srcOk src own = true) (ho : ∀ s, own.all (okOwn (mk s)) = true) (hv : ∀ s v, v ∈ own → (mk s)[v]? = (mk s0)[v]?) (w : Weak p (mk s0)) (he : ∀ a s, ∃ pb, bindP t (g a) (forget (mk s) own) = some pb ∧ CE me pb (f a s) fun d p3 r3 => ∃ y s', d = v y ∧ r3 = .ok (y, s') ∧ Weak p3 (forget (mk s') own)) (q : ∀ ys, Q (.list (ys.1.map v)) (mk ys.2) (k ys)) : CE (lcTail t own (M.pure true) me src) p (R.guard (szL l) (R.bind (mapS f l s0) k)) Q := ce_guard fun hz e fi => by
  have hz : l.length ≤ sizeLine := of_decide_eq_true hz
  have fi := w.fit fi
  cases hm : mapS f l s0 with
  | bad => exact .inl rfl
  | exc c x =>
    exfalso
    have : ∀ (l : List α) (s : σ), mapS f l s ≠ .exc c x := by
      intro l
      induction l with
      | nil => intro s z; cases z
      | cons a l ih =>
        intro s z
        unfold mapS at z
        split at z
        · rename_i b s' _
          cases hq : mapS f l s' with
          | ok _ => rw [hq] at z; cases z
          | bad => rw [hq] at z; cases z
          | exc _ _ => rw [hq] at z; cases z; exact ih _ hq
        · cases z
    exact this l s0 hm
  | ok ys =>
    obtain ⟨e2, w1, w2⟩ := wipe_fit (forget_unk (ho s0)) (forget_fit (ho s0) fi)
    obtain ⟨e3, i1, i2⟩ := lc_mapS (pf := fun s => forget (mk s) own) (fun s => forget_unk (ho s)) he w2 hm
    refine .inr (.inl ⟨_, backE e e3 own, mk ys.2, ?_, ?_, q ys⟩)
    · unfold lcTail
      rw [hs, List.length_map, if_pos ⟨hz, h2⟩, w1, Option.bind_some, i1]
    · -- the slots of the block come back as they were
      have fi2 := fit_iff.mp fi
      have fi3 := fit_iff.mp i2
      have ho2 := ho ys.2
      rw [List.all_eq_true] at ho2
      rw [fit_iff]
      refine ⟨by rw [backE_len, ← fi3.1, forget_len], fun i s k => ?_, fun i d k => ?_⟩
      · by_cases z : i ∈ own
        · have hl := okOwn_lt (ho2 i z)
          have h0 := ho2 i z
          unfold okOwn at h0
          rw [k] at h0
          cases s with
          | val d =>
            refine (backE_in z (by rw [← fi3.1, forget_len]; exact hl)).1 d ?_
            rw [hv ys.2 i z] at k
            exact fi2.2.1 i _ k
          | _ => cases h0
        · rw [backE_out z]
          exact fi3.2.1 i s (by rw [forget_get z]; exact k)
      · by_cases z : i ∈ own
        · have hl := okOwn_lt (ho2 i z)
          have hl2 : i < e3.length := by rw [← fi3.1, forget_len]; exact hl
          have hf := fi3.2.2 i d (forget_in z hl)
          by_cases y : ∃ d', e[i]? = some (.val d')
          · obtain ⟨d', y⟩ := y
            rw [(backE_in z hl2).1 d' y]
            intro q
            cases q
          · rw [(backE_in z hl2).2 fun d' q => y ⟨d', q⟩]
            exact hf
        · rw [backE_out z]
          exact fi3.2.2 i d (by rw [forget_get z]; exact k)
end
end Tp
/-! Ts4: the rules of statements, the ends of defs. -/
namespace Tp
open PySem
abbrev QS (τ : Type) := Out → R τ → Prop
section
variable {α β γ τ σ ρ : Type} {p p' : Pat} {r : R τ} {P : PgI} {cf : Nat → List D → FRes} {c : SM}
theorem cs_guard {sm : SM} {Q : QS τ} {b : Bool} (h : b = true → CS sm p r Q) : CS sm p (R.guard b r) Q := fun e f => by
  cases b with
  | true => exact h rfl e f
  | false => exact .inl rfl
theorem cs_of {sm : SM} {Q : QS τ} {o : Option α} {k : α → R τ} (h : ∀ a, o = some a → CS sm p (k a) Q) : CS sm p (R.bind (R.of o) k) Q := fun e f => by
  cases o with
  | some a => exact h a rfl e f
  | none => exact .inl rfl
theorem cs_weak {sm : SM} {Q : QS τ} (w : Weak p p') (h : CS sm p' r Q) : CS sm p r Q := fun e f => h e (w.fit f)
theorem cs_bad {sm : SM} {Q : QS τ} : CS sm p .bad Q := fun e f => .inl rfl
abbrev SK (P : PgI) (cf : Nat → List D → FRes) (s : IS) (c : SM) (p : Pat) (r : R τ) (Q : QS τ) : Prop := CS (seqM (denS P cf s) c) p r Q
theorem seq_assoc (a b c : SM) : seqM (seqM a b) c = seqM a (seqM b c) := by
  funext e
  unfold seqM
  cases a e <;> rfl
theorem k_cons {Q : QS τ} {a b : IS} (h : SK P cf a (seqM (denS P cf b) c) p r Q) : SK P cf (.cons a b) c p r Q := by
  show CS (seqM (seqM (denS P cf a) (denS P cf b)) c) p r Q
  rw [seq_assoc]
  exact h
theorem k_nil {Q : QS τ} (h : CS c p r Q) : SK P cf .nil c p r Q := h
theorem k_pass {Q : QS τ} (h : CS c p r Q) : SK P cf .pass c p r Q := h
theorem cs_end {Q : QS τ} (h : ∀ e, Fit p e → Q (.nx e) r) : CS nextM p r Q := fun e f => .inr (.inl (h e f))
theorem cs_onV {Q : QS τ} {m : M D} {k : D → SM} (h : CE m p r fun d p1 r1 => CS (seqM (k d) c) p1 r1 Q) : CS (seqM (onV m k) c) p r Q := fun e f => by
  rcases h e f with h | ⟨x, e1, p1, h1, h2, h3⟩ | ⟨x, y, e1, h1, h2⟩
  · exact .inl h
  · have := h3 e1 h2
    have e2 : seqM (onV m k) c e = seqM (k x) c e1 := by unfold seqM onV; rw [h1]
    rw [e2]
    exact this
  · exact .inr (.inr ⟨x, y, e1, by unfold seqM onV; rw [h1], h2⟩)
theorem k_asg {Q : QS τ} {t : Tgt} {ie : IE} (h : EE P cf ie p r fun d p1 r1 => ∃ p2, bindP t d p1 = some p2 ∧ CS c p2 r1 Q) : SK P cf (.asg t ie) c p r Q := cs_onV fun e f => by
  rcases h e f with h | ⟨x, e1, p1, h1, h2, p2, h3, h4⟩ | h
  · exact .inl h
  · refine .inr (.inl ⟨x, e1, p1, h1, h2, fun e f => ?_⟩)
    obtain ⟨e2, k1, k2⟩ := bindP_fit h3 f
    have := h4 e2 k2
    have e3 : seqM (fun e => liftE (t.bind x e)) c e = c e2 := by unfold seqM; simp only [k1, liftE]
    rw [e3]
    exact this
  · exact .inr (.inr h)
theorem k_asgO {Q : QS τ} {i : Nat} {ie : IE} (h : EE P cf ie p r fun d p1 r1 => nio p1 i = true ∧ CS c (p1.set i (some (.own d))) r1 Q) : SK P cf (.asgO i ie) c p r Q := cs_onV fun e f => by
  rcases h e f with h | ⟨x, e1, p1, h1, h2, h3, h4⟩ | h
  · exact .inl h
  · refine .inr (.inl ⟨x, e1, p1, h1, h2, fun e f => ?_⟩)
    obtain ⟨k1, k2⟩ := setO_fit x f h3
    have := h4 _ k2
    have e3 : seqM (fun e => liftE (setO e i x)) c e = c (e.set i (.own x)) := by unfold seqM; simp only [k1, liftE]
    rw [e3]
    exact this
  · exact .inr (.inr h)
def putS (o : Bool) (d : D) : Slot := if o = true then .own d else .val d
theorem putVO_fit {o : Bool} {e : Env} {i : Nat} (d : D) (h : Fit p e) (k : nio p i = true) : ∃ e', putVO o e i d = some e' ∧ Fit (p.set i (some (putS o d))) e' := by
  cases o with
  | true => obtain ⟨h1, h2⟩ := setO_fit d h k; exact ⟨_, h1, h2⟩
  | false => obtain ⟨h1, h2⟩ := setV_fit d h k; exact ⟨_, h1, h2⟩
theorem k_par2 {Q : QS τ} {o1 o2 : Bool} {i j : Nat} {a b : IE} (h : EE P cf a p r fun d1 p1 r1 => EE P cf b p1 r1 fun d2 p2 r2 => nio p2 j = true ∧ nio (p2.set j (some (putS o2 d2))) i = true ∧ CS c ((p2.set j (some (putS o2 d2))).set i (some (putS o1 d1))) r2 Q) : SK P cf (.par2 o1 o2 i j a b) c p r Q := cs_onV fun e f => by
  rcases h e f with h | ⟨x, e1, p1, h1, h2, h3⟩ | h
  · exact .inl h
  · refine .inr (.inl ⟨x, e1, p1, h1, h2, cs_onV fun e f => ?_⟩)
    rcases h3 e f with h | ⟨y, e1, p1, k1, k2, n1, n2, k3⟩ | h
    · exact .inl h
    · refine .inr (.inl ⟨y, e1, p1, k1, k2, fun e f => ?_⟩)
      obtain ⟨e2, j1, j2⟩ := putVO_fit (o := o2) y f n1
      obtain ⟨e3, j3, j4⟩ := putVO_fit (o := o1) x j2 n2
      have := k3 e3 j4
      have e4 : seqM (fun e => liftE ((putVO o2 e j y).bind fun e' => putVO o1 e' i x)) c e = c e3 := by unfold seqM; simp only [j1, j3, Option.bind_some, liftE]
      rw [e4]
      exact this
    · exact .inr (.inr h)
  · exact .inr (.inr h)
theorem k_par3 {Q : QS τ} {o1 o2 o3 : Bool} {i j l : Nat} {a b d : IE} (h : EE P cf a p r fun d1 p1 r1 => EE P cf b p1 r1 fun d2 p2 r2 => EE P cf d p2 r2 fun d3 p3 r3 => nio p3 l = true ∧ nio (p3.set l (some (putS o3 d3))) j = true ∧ nio ((p3.set l (some (putS o3 d3))).set j (some (putS o2 d2))) i = true ∧ CS c (((p3.set l (some (putS o3 d3))).set j (some (putS o2 d2))).set i (some (putS o1 d1))) r3 Q) : SK P cf (.par3 o1 o2 o3 i j l a b d) c p r Q := cs_onV fun e f => by
  rcases h e f with h | ⟨x, e1, p1, h1, h2, h3⟩ | h
  · exact .inl h
  · refine .inr (.inl ⟨x, e1, p1, h1, h2, cs_onV fun e f => ?_⟩)
    rcases h3 e f with h | ⟨y, e1, p1, k1, k2, k3⟩ | h
    · exact .inl h
    · refine .inr (.inl ⟨y, e1, p1, k1, k2, cs_onV fun e f => ?_⟩)
      rcases k3 e f with h | ⟨z, e1, p1, g1, g2, n1, n2, n3, g3⟩ | h
      · exact .inl h
      · refine .inr (.inl ⟨z, e1, p1, g1, g2, fun e f => ?_⟩)
        obtain ⟨e2, j1, j2⟩ := putVO_fit (o := o3) z f n1
        obtain ⟨e3, j3, j4⟩ := putVO_fit (o := o2) y j2 n2
        obtain ⟨e4, j5, j6⟩ := putVO_fit (o := o1) x j4 n3
        have := g3 e4 j6
        have e5 : seqM (fun e => liftE (((putVO o3 e l z).bind fun e' => putVO o2 e' j y).bind fun e' => putVO o1 e' i x)) c e = c e4 := by unfold seqM; simp only [j1, j3, j5, Option.bind_some, liftE]
        rw [e5]
        exact this
      · exact .inr (.inr h)
    · exact .inr (.inr h)
  · exact .inr (.inr h)
theorem k_aug {Q : QS τ} {sub : Bool} {i : Nat} {a : Int} {ie : IE} (hp : p[i]? = some (some (.val (.int a)))) (h : EE P cf ie p r fun d p1 r1 => ∃ b, d = .int b ∧ nio p1 i = true ∧ CS c (p1.set i (some (.val (.int (augF sub a b))))) r1 Q) : SK P cf (.aug sub i ie) c p r Q := fun e f => by
  have he := fit_get f hp
  have e1 : seqM (denS P cf (.aug sub i ie)) c e = seqM (onV (den P cf ie).e fun d e' => match d with | .int b => liftE (setV e' i (.int (augF sub a b))) | _ => .stuck) c e := by
    show seqM (augM (augF sub) i (den P cf ie).e) c e = _
    unfold seqM augM
    rw [he]
    try rfl
  show r = .bad ∨ Q (seqM (denS P cf (.aug sub i ie)) c e) r ∨ _
  rw [e1]
  refine cs_onV (fun e f => ?_) e f
  rcases h e f with h | ⟨x, e1, p1, h1, h2, b, rfl, h3, h4⟩ | h
  · exact .inl h
  · refine .inr (.inl ⟨_, e1, p1, h1, h2, fun e f => ?_⟩)
    obtain ⟨k1, k2⟩ := setV_fit (.int (augF sub a b)) f h3
    have := h4 _ k2
    have e3 : seqM (fun e' => liftE (setV e' i (.int (augF sub a b)))) c e = c (e.set i (.val (.int (augF sub a b)))) := by unfold seqM; simp only [k1, liftE]
    show _ ∨ Q (seqM (fun e' => liftE (setV e' i (.int (augF sub a b)))) c e) _ ∨ _
    rw [e3]
    exact this
  · exact .inr (.inr h)
theorem cs_chg {Q : QS τ} {i : Nat} {d d' : D} {w : D → Slot} {g : D → Option D} (h : Mn p i d w) (hg : g d = some d') (q : CS c (p.set i (some (w d'))) r Q) : CS (seqM (changeM i g) c) p r Q := fun e f => by
  obtain ⟨z1, z2⟩ := h.get f
  have := q _ (fit_set f)
  have e3 : seqM (changeM i g) c e = c (e.set i (w d')) := by
    unfold seqM changeM
    simp only [z1, hg, z2]
  rw [e3]
  exact this
theorem k_app {Q : QS τ} {i : Nat} {ie : IE} {ds0 : List D} {w0 : D → Slot} (h0 : Mn p i (.list ds0) w0) (h : EE P cf ie p r fun y p1 r1 => CS (seqM (changeM i (appD y)) c) p1 r1 Q) : SK P cf (.app i ie) c p r Q := fun e f => by
  have he := (h0.get f).1
  have e1 : seqM (denS P cf (.app i ie)) c e = seqM (onV (den P cf ie).e fun y => changeM i (appD y)) c e := by
    show seqM (appM i (den P cf ie).e) c e = _
    unfold seqM appM
    rw [he]
  show r = .bad ∨ Q (seqM (denS P cf (.app i ie)) c e) r ∨ _
  rw [e1]
  exact cs_onV h e f
theorem k_set {Q : QS τ} {i : Nat} {ke ie : IE} (h : EE P cf ie p r fun y p1 r1 => ∃ d1 w1, Mn p1 i d1 w1 ∧ EE P cf ke p1 r1 fun k p2 r2 => CS (seqM (changeM i (setD k y)) c) p2 r2 Q) : SK P cf (.set i ke ie) c p r Q := cs_onV fun e f => by
  rcases h e f with h | ⟨y, e1, p1, h1, h2, d1, w1, m1, h3⟩ | h
  · exact .inl h
  · refine .inr (.inl ⟨y, e1, p1, h1, h2, fun e f => ?_⟩)
    have z := (m1.get f).1
    have e4 : seqM (fun e => match e[i]?.bind Slot.mine? with | some _ => onV (den P cf ke).e (fun k => changeM i (setD k y)) e | none => .stuck) c e = seqM (onV (den P cf ke).e (fun k => changeM i (setD k y))) c e := by
      unfold seqM
      simp only [z]
    show _ ∨ Q (seqM (fun e => match e[i]?.bind Slot.mine? with | some _ => onV (den P cf ke).e (fun k => changeM i (setD k y)) e | none => .stuck) c e) _ ∨ (∃ c' x e', seqM (fun e => match e[i]?.bind Slot.mine? with | some _ => onV (den P cf ke).e (fun k => changeM i (setD k y)) e | none => .stuck) c e = .exc c' x e' ∧ _)
    rw [e4]
    exact cs_onV h3 e f
  · exact .inr (.inr h)
theorem k_never {Q : QS τ} : SK P cf .never c p (.bad) Q := fun e f => .inl rfl
theorem k_expr {Q : QS τ} {ie : IE} (h : EE P cf ie p r fun _ p1 r1 => CS c p1 r1 Q) : SK P cf (.expr ie) c p r Q := cs_onV fun e f => by
  rcases h e f with h | ⟨x, e1, p1, h1, h2, h3⟩ | h
  · exact .inl h
  · exact .inr (.inl ⟨x, e1, p1, h1, h2, h3⟩)
  · exact .inr (.inr h)
theorem k_ret {Q : QS τ} {ie : IE} (h : EE P cf ie p r fun d p1 r1 => ∀ e, Fit p1 e → Q (.rt d e) r1) : SK P cf (.ret ie) c p r Q := cs_onV fun e f => by
  rcases h e f with h | ⟨x, e1, p1, h1, h2, h3⟩ | h
  · exact .inl h
  · exact .inr (.inl ⟨x, e1, p1, h1, h2, fun e f => .inr (.inl (h3 e f))⟩)
  · exact .inr (.inr h)
theorem k_ret0 {Q : QS τ} (h : ∀ e, Fit p e → Q (.rt .none e) r) : SK P cf .ret0 c p r Q := fun e f => .inr (.inl (h e f))
theorem cs_onB {Q : QS τ} {m : M Bool} {k : Bool → SM} (h : CE m p r fun b p1 r1 => CS (seqM (k b) c) p1 r1 Q) : CS (seqM (onB m k) c) p r Q := fun e f => by
  rcases h e f with h | ⟨x, e1, p1, h1, h2, h3⟩ | ⟨x, y, e1, h1, h2⟩
  · exact .inl h
  · have := h3 e1 h2
    have e2 : seqM (onB m k) c e = seqM (k x) c e1 := by unfold seqM onB; rw [h1]
    rw [e2]
    exact this
  · exact .inr (.inr ⟨x, y, e1, by unfold seqM onB; rw [h1], h2⟩)
theorem k_ite {Q : QS τ} {t : IE} {a b : IS} (h : EB P cf t p r fun k p1 r1 => ∃ ra rb, r1 = (if k = true then ra else rb) ∧ (k = true → SK P cf a c p1 ra Q) ∧ (k = false → SK P cf b c p1 rb Q)) : SK P cf (.ite t a b) c p r Q := cs_onB fun e f => by
  rcases h e f with h | ⟨k, e1, p1, h1, h2, ra, rb, rfl, h3, h4⟩ | h
  · exact .inl h
  · refine .inr (.inl ⟨k, e1, p1, h1, h2, ?_⟩)
    cases k with
    | true => exact h3 rfl
    | false => exact h4 rfl
  · exact .inr (.inr h)
/-- a statement that only goes on, by itself: what it has changed is s -/
def GoQ (mk : σ → Pat) (o : Out) (r : R σ) : Prop := ∃ s e, o = .nx e ∧ r = .ok s ∧ Fit (mk s) e
theorem goq {mk : σ → Pat} {s : σ} (w : Weak p (mk s)) : CS nextM p (.ok s) (GoQ mk) := cs_end fun e f => ⟨s, e, rfl, rfl, w.fit f⟩
theorem seq_next (a : SM) : seqM a nextM = a := by
  funext e
  unfold seqM nextM
  cases a e <;> rfl
theorem k_sub {Q : QS τ} {s : IS} {r1 : R σ} {k : σ → R τ} (mk : σ → Pat) (h : SK P cf s nextM p r1 (GoQ mk)) (hk : ∀ x, CS c (mk x) (k x) Q) : SK P cf s c p (R.bind r1 k) Q := fun e f => by
  have h := h e f
  rw [seq_next] at h
  rcases h with h | ⟨x, e1, h1, h2, h3⟩ | ⟨a, b, e1, h1, h2⟩
  · exact .inl (by rw [h]; rfl)
  · have := hk x e1 h3
    have e2 : seqM (denS P cf s) c e = c e1 := by unfold seqM; rw [h1]
    show R.bind r1 k = .bad ∨ Q (seqM (denS P cf s) c e) _ ∨ _
    rw [e2, h2]
    exact this
  · exact .inr (.inr ⟨a, b, e1, by unfold seqM; rw [h1], by rw [h2]; rfl⟩)
/-! ### loops -/
theorem k_for {Q : QS τ} {t : Tgt} {iter : IE} {body : IS} {kill : List Nat} (h : ES P cf iter p r fun src p1 r1 => src.2 = none ∧ CS (seqM (forLoop t (denS P cf body) kill src.1) c) p1 r1 Q) : SK P cf (.for_ t iter body kill) c p r Q := fun e f => by
  rcases h e f with h | ⟨⟨ds, j⟩, e1, p1, h1, h2, h3, h4⟩ | ⟨x, y, e1, h1, h2⟩
  · exact .inl h
  · have h3 : j = none := h3
    subst h3
    have := h4 e1 h2
    have e2 : seqM (denS P cf (.for_ t iter body kill)) c e = seqM (forLoop t (denS P cf body) kill ds) c e1 := by
      show seqM (forM' (den P cf iter).s t (denS P cf body) kill) c e = _
      unfold seqM forM' onS
      rw [h1]
    show r = .bad ∨ Q (seqM (denS P cf (.for_ t iter body kill)) c e) r ∨ _
    rw [e2]
    exact this
  · refine .inr (.inr ⟨x, y, e1, ?_, h2⟩)
    show seqM (forM' (den P cf iter).s t (denS P cf body) kill) c e = _
    unfold seqM forM' onS
    rw [h1]
/-- what a turn promises -/
inductive TurnQ (mk : σ → Pat) (RQ : D → Env → ρ → Prop) : Out → R (Ctl σ ρ) → Prop
  | nx {s : σ} {e : Env} : Fit (mk s) e → TurnQ mk RQ (.nx e) (.ok (.nx s))
  | ct {s : σ} {e : Env} : Fit (mk s) e → TurnQ mk RQ (.ct e) (.ok (.nx s))
  | bk {s : σ} {e : Env} : Fit (mk s) e → TurnQ mk RQ (.bk e) (.ok (.bk s))
  | rt {d : D} {a : ρ} {e : Env} : RQ d e a → TurnQ mk RQ (.rt d e) (.ok (.rt a))
inductive TurnT (mk : σ → Pat) : Out → R σ → Prop
  | nx {s : σ} {e : Env} : Fit (mk s) e → TurnT mk (.nx e) (.ok s)
  | ct {s : σ} {e : Env} : Fit (mk s) e → TurnT mk (.ct e) (.ok s)
theorem tt_nx {mk : σ → Pat} {s : σ} (w : Weak p (mk s)) : CS nextM p (.ok s) (TurnT mk) := cs_end fun e f => .nx (w.fit f)
theorem tt_ct {mk : σ → Pat} {s : σ} (w : Weak p (mk s)) : SK P cf .cont c p (.ok s) (TurnT mk) := fun e f => .inr (.inl (.ct (w.fit f)))
theorem tq_nx {mk : σ → Pat} {RQ : D → Env → ρ → Prop} {s : σ} (w : Weak p (mk s)) : CS nextM p (.ok (.nx s)) (TurnQ mk RQ) := cs_end fun e f => .nx (w.fit f)
theorem tq_ct {mk : σ → Pat} {RQ : D → Env → ρ → Prop} {s : σ} (w : Weak p (mk s)) : SK P cf .cont c p (.ok (.nx s)) (TurnQ mk RQ) := fun e f => .inr (.inl (.ct (w.fit f)))
theorem tq_bk {mk : σ → Pat} {RQ : D → Env → ρ → Prop} {s : σ} (w : Weak p (mk s)) : SK P cf .brk c p (.ok (.bk s)) (TurnQ mk RQ) := fun e f => .inr (.inl (.bk (w.fit f)))
theorem loopT_fit {t : Tgt} {mb : SM} {kill : List Nat} {mk : σ → Pat} {g : α → D} {b : α → σ → R σ} (hu : ∀ s, kill.all (unk (mk s)) = true) (hb : ∀ a s, ∃ pb, bindP t (g a) (mk s) = some pb ∧ CS mb pb (b a s) (TurnT mk)) : ∀ {l : List α} {s : σ} {e : Env}, Fit (mk s) e → forT b l s = .bad ∨ (∃ s' e', forT b l s = .ok s' ∧ forLoop t mb kill (l.map g) e = .nx e' ∧ Fit (mk s') e') ∨ ∃ c x e', forT b l s = .exc c x ∧ forLoop t mb kill (l.map g) e = .exc c x e'
  | [], s, e, f => .inr (.inl ⟨s, e, rfl, rfl, f⟩)
  | a :: l, s, e, f => by
    obtain ⟨pb, h1, h2⟩ := hb a s
    obtain ⟨e1, h3, h4⟩ := bindP_fit h1 f
    have h2 := h2 e1 h4
    rw [List.map_cons]
    unfold forT forLoop
    rw [h3]
    simp only
    rcases h2 with h2 | h2 | ⟨c, x, e2, h2, h5⟩
    · exact .inl (by rw [h2]; rfl)
    · generalize mb e1 = o at h2 ⊢
      generalize b a s = rb at h2 ⊢
      cases h2 with
      | nx f2 =>
        obtain ⟨e3, w1, w2⟩ := wipe_fit (hu _) f2
        simp only [R.bind_ok, w1]
        exact loopT_fit hu hb w2
      | ct f2 =>
        obtain ⟨e3, w1, w2⟩ := wipe_fit (hu _) f2
        simp only [R.bind_ok, w1]
        exact loopT_fit hu hb w2
    · exact .inr (.inr ⟨c, x, e2, by rw [h5]; rfl, by rw [h2]⟩)
theorem cs_forT {Q : QS τ} {t : Tgt} {mb : SM} {kill : List Nat} {ds : List D} {l : List α} {g : α → D} {b : α → σ → R σ} {s0 : σ} {k : σ → R τ} (mk : σ → Pat) (hl : ds = l.map g) (w : Weak p (mk s0)) (hu : ∀ s, kill.all (unk (mk s)) = true) (hb : ∀ a s, ∃ pb, bindP t (g a) (mk s) = some pb ∧ CS mb pb (b a s) (TurnT mk)) (hk : ∀ s, CS c (mk s) (k s) Q) : CS (seqM (forLoop t mb kill ds) c) p (R.bind (forT b l s0) k) Q := fun e f => by
  subst hl
  rcases loopT_fit hu hb (l := l) (w.fit f) with h | ⟨s', e', h1, h2, h3⟩ | ⟨c', x, e', h1, h2⟩
  · exact .inl (by rw [h]; rfl)
  · have := hk s' e' h3
    have e2 : seqM (forLoop t mb kill (l.map g)) c e = c e' := by unfold seqM; rw [h2]
    rw [e2, h1]
    exact this
  · exact .inr (.inr ⟨c', x, e', by unfold seqM; rw [h2], by rw [h1]; rfl⟩)
theorem loopC_fit {t : Tgt} {mb : SM} {kill : List Nat} {mk : σ → Pat} {g : α → D} {b : α → σ → R (Ctl σ ρ)} {RQ : D → Env → ρ → Prop} (hu : ∀ s, kill.all (unk (mk s)) = true) (hb : ∀ a s, ∃ pb, bindP t (g a) (mk s) = some pb ∧ CS mb pb (b a s) (TurnQ mk RQ)) : ∀ {l : List α} {s : σ} {e : Env}, Fit (mk s) e → forC b l s = .bad ∨ (∃ s' e', forC b l s = .ok (.nx s') ∧ forLoop t mb kill (l.map g) e = .nx e' ∧ Fit (mk s') e') ∨ (∃ a d e', forC b l s = .ok (.rt a) ∧ forLoop t mb kill (l.map g) e = .rt d e' ∧ RQ d e' a) ∨ ∃ c x e', forC b l s = .exc c x ∧ forLoop t mb kill (l.map g) e = .exc c x e'
  | [], s, e, f => .inr (.inl ⟨s, e, rfl, rfl, f⟩)
  | a :: l, s, e, f => by
    obtain ⟨pb, h1, h2⟩ := hb a s
    obtain ⟨e1, h3, h4⟩ := bindP_fit h1 f
    have h2 := h2 e1 h4
    rw [List.map_cons]
    unfold forC forLoop
    rw [h3]
    simp only
    rcases h2 with h2 | h2 | ⟨c, x, e2, h2, h5⟩
    · exact .inl (by rw [h2]; rfl)
    · generalize mb e1 = o at h2 ⊢
      generalize b a s = rb at h2 ⊢
      cases h2 with
      | nx f2 =>
        obtain ⟨e3, w1, w2⟩ := wipe_fit (hu _) f2
        simp only [R.bind_ok, w1]
        exact loopC_fit hu hb w2
      | ct f2 =>
        obtain ⟨e3, w1, w2⟩ := wipe_fit (hu _) f2
        simp only [R.bind_ok, w1]
        exact loopC_fit hu hb w2
      | bk f2 =>
        obtain ⟨e3, w1, w2⟩ := wipe_fit (hu _) f2
        simp only [R.bind_ok, w1]
        exact .inr (.inl ⟨_, e3, rfl, rfl, w2⟩)
      | rt q => exact .inr (.inr (.inl ⟨_, _, _, rfl, rfl, q⟩))
    · exact .inr (.inr (.inr ⟨c, x, e2, by rw [h5]; rfl, by rw [h2]⟩))
theorem cs_forC {Q : QS τ} {t : Tgt} {mb : SM} {kill : List Nat} {ds : List D} {l : List α} {g : α → D} {b : α → σ → R (Ctl σ ρ)} {s0 : σ} {k : σ → R τ} {fr : ρ → τ} (mk : σ → Pat) (RQ : D → Env → ρ → Prop) (hl : ds = l.map g) (w : Weak p (mk s0)) (hu : ∀ s, kill.all (unk (mk s)) = true) (hb : ∀ a s, ∃ pb, bindP t (g a) (mk s) = some pb ∧ CS mb pb (b a s) (TurnQ mk RQ)) (hr : ∀ d e a, RQ d e a → Q (.rt d e) (.ok (fr a))) (hk : ∀ s, CS c (mk s) (k s) Q) : CS (seqM (forLoop t mb kill ds) c) p (R.ctl (forC b l s0) k fr) Q := fun e f => by
  subst hl
  rcases loopC_fit hu hb (l := l) (w.fit f) with h | ⟨s', e', h1, h2, h3⟩ | ⟨a, d, e', h1, h2, h3⟩ | ⟨c', x, e', h1, h2⟩
  · exact .inl (by rw [h]; rfl)
  · have := hk s' e' h3
    have e2 : seqM (forLoop t mb kill (l.map g)) c e = c e' := by unfold seqM; rw [h2]
    rw [e2, h1]
    exact this
  · refine .inr (.inl ?_)
    have e2 : seqM (forLoop t mb kill (l.map g)) c e = .rt d e' := by unfold seqM; rw [h2]
    rw [e2, h1]
    exact hr _ _ _ h3
  · exact .inr (.inr ⟨c', x, e', by unfold seqM; rw [h2], by rw [h1]; rfl⟩)
theorem whT_fit {mc : M Bool} {mb : SM} {kill : List Nat} {mk : σ → Pat} {t : σ → R Bool} {b : σ → R σ} (hu : ∀ s, kill.all (unk (mk s)) = true) (ht : ∀ s, CE mc (mk s) (t s) fun k p1 r1 => r1 = .ok k ∧ Weak p1 (mk s)) (hb : ∀ s, CS mb (mk s) (b s) (TurnT mk)) : ∀ {n : Nat} {s : σ} {e : Env}, Fit (mk s) e → whT t b n s = .bad ∨ (∃ s' e', whT t b n s = .ok s' ∧ whileLoop mc mb kill n e = .nx e' ∧ Fit (mk s') e') ∨ ∃ c x e', whT t b n s = .exc c x ∧ whileLoop mc mb kill n e = .exc c x e'
  | 0, s, e, f => .inl rfl
  | n + 1, s, e, f => by
    unfold whT whileLoop
    rcases ht s e f with h | ⟨k, e1, p1, h1, h2, h3, h4⟩ | ⟨c, x, e1, h1, h2⟩
    · exact .inl (by rw [h]; rfl)
    · rw [h1, h3]
      cases k with
      | false => exact .inr (.inl ⟨s, e1, rfl, rfl, h4.fit h2⟩)
      | true =>
        have h2 := hb s e1 (h4.fit h2)
        simp only [R.bind_ok, if_true]
        rcases h2 with h2 | h2 | ⟨c, x, e2, h2, h5⟩
        · exact .inl (by rw [h2]; rfl)
        · generalize mb e1 = o at h2 ⊢
          generalize b s = rb at h2 ⊢
          cases h2 with
          | nx f2 =>
            obtain ⟨e3, w1, w2⟩ := wipe_fit (hu _) f2
            simp only [R.bind_ok, w1]
            exact whT_fit hu ht hb w2
          | ct f2 =>
            obtain ⟨e3, w1, w2⟩ := wipe_fit (hu _) f2
            simp only [R.bind_ok, w1]
            exact whT_fit hu ht hb w2
        · exact .inr (.inr ⟨c, x, e2, by rw [h5]; rfl, by rw [h2]⟩)
    · exact .inr (.inr ⟨c, x, e1, by rw [h2]; rfl, by rw [h1]⟩)
theorem k_whT {Q : QS τ} {tc : IE} {body : IS} {kill : List Nat} {n : Nat} {t : σ → R Bool} {b : σ → R σ} {s0 : σ} {k : σ → R τ} (mk : σ → Pat) (w : Weak p (mk s0)) (hu : ∀ s, kill.all (unk (mk s)) = true) (ht : ∀ s, EB P cf tc (mk s) (t s) fun k p1 r1 => r1 = .ok k ∧ Weak p1 (mk s)) (hb : ∀ s, CS (denS P cf body) (mk s) (b s) (TurnT mk)) (hk : ∀ s, CS c (mk s) (k s) Q) : SK P cf (.while_ tc body kill n) c p (R.bind (whT t b n s0) k) Q := fun e f => by
  rcases whT_fit (n := n) hu ht hb (w.fit f) with h | ⟨s', e', h1, h2, h3⟩ | ⟨c', x, e', h1, h2⟩
  · exact .inl (by rw [h]; rfl)
  · have := hk s' e' h3
    have e2 : seqM (denS P cf (.while_ tc body kill n)) c e = c e' := by
      show seqM (whileLoop _ _ _ _) c e = _
      unfold seqM; rw [h2]
    show R.bind _ k = .bad ∨ Q (seqM (denS P cf (.while_ tc body kill n)) c e) _ ∨ _
    rw [e2, h1]
    exact this
  · refine .inr (.inr ⟨c', x, e', ?_, by rw [h1]; rfl⟩)
    show seqM (whileLoop _ _ _ _) c e = _
    unfold seqM; rw [h2]
theorem whC_fit {mc : M Bool} {mb : SM} {kill : List Nat} {mk : σ → Pat} {t : σ → R Bool} {b : σ → R (Ctl σ ρ)} {RQ : D → Env → ρ → Prop} (hu : ∀ s, kill.all (unk (mk s)) = true) (ht : ∀ s, CE mc (mk s) (t s) fun k p1 r1 => r1 = .ok k ∧ Weak p1 (mk s)) (hb : ∀ s, CS mb (mk s) (b s) (TurnQ mk RQ)) : ∀ {n : Nat} {s : σ} {e : Env}, Fit (mk s) e → whC t b n s = .bad ∨ (∃ s' e', whC t b n s = .ok (.nx s') ∧ whileLoop mc mb kill n e = .nx e' ∧ Fit (mk s') e') ∨ (∃ a d e', whC t b n s = .ok (.rt a) ∧ whileLoop mc mb kill n e = .rt d e' ∧ RQ d e' a) ∨ ∃ c x e', whC t b n s = .exc c x ∧ whileLoop mc mb kill n e = .exc c x e'
  | 0, s, e, f => .inl rfl
  | n + 1, s, e, f => by
    unfold whC whileLoop
    rcases ht s e f with h | ⟨k, e1, p1, h1, h2, h3, h4⟩ | ⟨c, x, e1, h1, h2⟩
    · exact .inl (by rw [h]; rfl)
    · rw [h1, h3]
      cases k with
      | false => exact .inr (.inl ⟨s, e1, rfl, rfl, h4.fit h2⟩)
      | true =>
        have h2 := hb s e1 (h4.fit h2)
        simp only [R.bind_ok, if_true]
        rcases h2 with h2 | h2 | ⟨c, x, e2, h2, h5⟩
        · exact .inl (by rw [h2]; rfl)
        · generalize mb e1 = o at h2 ⊢
          generalize b s = rb at h2 ⊢
          cases h2 with
          | nx f2 =>
            obtain ⟨e3, w1, w2⟩ := wipe_fit (hu _) f2
            simp only [R.bind_ok, w1]
            exact whC_fit hu ht hb w2
          | ct f2 =>
            obtain ⟨e3, w1, w2⟩ := wipe_fit (hu _) f2
            simp only [R.bind_ok, w1]
            exact whC_fit hu ht hb w2
          | bk f2 =>
            obtain ⟨e3, w1, w2⟩ := wipe_fit (hu _) f2
            simp only [R.bind_ok, w1]
            exact .inr (.inl ⟨_, e3, rfl, rfl, w2⟩)
          | rt q => exact .inr (.inr (.inl ⟨_, _, _, rfl, rfl, q⟩))
        · exact .inr (.inr (.inr ⟨c, x, e2, by rw [h5]; rfl, by rw [h2]⟩))
    · exact .inr (.inr (.inr ⟨c, x, e1, by rw [h2]; rfl, by rw [h1]⟩))
theorem k_whC {Q : QS τ} {tc : IE} {body : IS} {kill : List Nat} {n : Nat} {t : σ → R Bool} {b : σ → R (Ctl σ ρ)} {s0 : σ} {k : σ → R τ} {fr : ρ → τ} (mk : σ → Pat) (RQ : D → Env → ρ → Prop) (w : Weak p (mk s0)) (hu : ∀ s, kill.all (unk (mk s)) = true) (ht : ∀ s, EB P cf tc (mk s) (t s) fun k p1 r1 => r1 = .ok k ∧ Weak p1 (mk s)) (hb : ∀ s, CS (denS P cf body) (mk s) (b s) (TurnQ mk RQ)) (hr : ∀ d e a, RQ d e a → Q (.rt d e) (.ok (fr a))) (hk : ∀ s, CS c (mk s) (k s) Q) : SK P cf (.while_ tc body kill n) c p (R.ctl (whC t b n s0) k fr) Q := fun e f => by
  rcases whC_fit (n := n) hu ht hb (w.fit f) with h | ⟨s', e', h1, h2, h3⟩ | ⟨a, d, e', h1, h2, h3⟩ | ⟨c', x, e', h1, h2⟩
  · exact .inl (by rw [h]; rfl)
  · have := hk s' e' h3
    have e2 : seqM (denS P cf (.while_ tc body kill n)) c e = c e' := by
      show seqM (whileLoop _ _ _ _) c e = _
      unfold seqM; rw [h2]
    show R.ctl _ k fr = .bad ∨ Q (seqM (denS P cf (.while_ tc body kill n)) c e) _ ∨ _
    rw [e2, h1]
    exact this
  · refine .inr (.inl ?_)
    have e2 : seqM (denS P cf (.while_ tc body kill n)) c e = .rt d e' := by
      show seqM (whileLoop _ _ _ _) c e = _
      unfold seqM; rw [h2]
    show Q (seqM (denS P cf (.while_ tc body kill n)) c e) _
    rw [e2, h1]
    exact hr _ _ _ h3
  · refine .inr (.inr ⟨c', x, e', ?_, by rw [h1]; rfl⟩)
    show seqM (whileLoop _ _ _ _) c e = _
    unfold seqM; rw [h2]
/-! ### a def -/
def RQf (io : Option Nat) (en out : α → D) : D → Env → α → Prop := fun d e a => d = en a ∧ match io with | none => out a = .none | some i => e[i]? = some (.io (out a))
inductive EndQ (own : Bool) (RQ : D → Env → α → Prop) : Out → R α → Prop
  | rt {d : D} {a : α} {e : Env} : RQ d e a → EndQ own RQ (.rt d e) (.ok a)
  | nx {a : α} {e : Env} : own = false → RQ .none e a → EndQ own RQ (.nx e) (.ok a)
def initP (io : Option Nat) (ds : List D) (n : Nat) : Pat := (initE io ds).map some ++ List.replicate n none
theorem fit_app : ∀ {p q : Pat} {e f : Env}, Fit p e → Fit q f → Fit (p ++ q) (e ++ f)
  | [], _, [], _, _, h => h
  | [], _, _ :: _, _, h, _ => h.elim
  | _ :: _, _, [], _, h, _ => h.elim
  | _ :: _, _, _ :: _, _, h, k => ⟨h.1, fit_app h.2 k⟩
theorem fit_rep : ∀ {n : Nat}, Fit (List.replicate n none) (List.replicate n .no)
  | 0 => trivial
  | n + 1 => ⟨fun d z => (by cases z), fit_rep⟩
theorem run_B {H : PG} {n g : Nat} {fd : FD} {ds : List D} (h : H.fns.lookup g = some fd) (hl : ds.length = fd.ps.length) : run H (n + 1) g ds = endB fd.io fd.own (denS H.I (run H n) fd.body (initE fd.io ds ++ List.replicate (fd.N.length - fd.ps.length) .no)) := by
  simp only [run, h]
  unfold runB
  rw [if_pos hl]
theorem fn_sim {H : PG} {n g : Nat} {fd : FD} {ds : List D} {r : R α} {en : α → D} {p0 : Pat} (h : H.fns.lookup g = some fd) (hl : ds.length = fd.ps.length) (hio : fd.io = none) (hp : initP fd.io ds (fd.N.length - fd.ps.length) = p0) (hb : SK H.I (run H n) fd.body nextM p0 r (EndQ fd.own (RQf none en noneD))) : Sim (run H (n + 1) g ds) r en noneD := by
  subst hp
  rw [run_B h hl]
  have hb := hb _ (fit_app (fit_all (initE fd.io ds)) (fit_rep (n := fd.N.length - fd.ps.length)))
  rw [seq_next] at hb
  rw [hio] at hb ⊢
  rcases hb with hb | hb | ⟨c, x, e', h1, h2⟩
  · rw [hb]; trivial
  · generalize denS H.I (run H n) fd.body _ = o at hb ⊢
    cases hb with
    | rt q =>
      obtain ⟨rfl, q⟩ := q
      rfl
    | nx ho q =>
      obtain ⟨q1, q⟩ := q
      unfold Sim endB outE
      rw [ho]
      show FRes.ok PyData.none .none = FRes.ok (en _) (noneD _)
      rw [← q1]
      rfl
  · rw [h1, h2]
    exact ⟨_, rfl⟩
theorem fn_simI {H : PG} {n g i : Nat} {fd : FD} {ds : List D} {r : R α} {en out : α → D} {p0 : Pat} (h : H.fns.lookup g = some fd) (hl : ds.length = fd.ps.length) (hio : fd.io = some i) (hp : initP fd.io ds (fd.N.length - fd.ps.length) = p0) (hb : SK H.I (run H n) fd.body nextM p0 r (EndQ fd.own (RQf (some i) en out))) : SimI (run H (n + 1) g ds) r en out := by
  subst hp
  intro a ha
  subst ha
  rw [run_B h hl]
  have hb := hb _ (fit_app (fit_all (initE fd.io ds)) (fit_rep (n := fd.N.length - fd.ps.length)))
  rw [seq_next] at hb
  rw [hio] at hb ⊢
  rcases hb with hb | hb | ⟨c, x, e', h1, h2⟩
  · cases hb
  · generalize denS H.I (run H n) fd.body _ = o at hb ⊢
    generalize hr : R.ok a = r at hb
    cases hb with
    | rt q =>
      cases hr
      obtain ⟨rfl, q⟩ := q
      unfold endB outE
      simp only at q ⊢
      rw [q]
    | nx ho q =>
      cases hr
      obtain ⟨q1, q⟩ := q
      unfold endB outE
      simp only at q ⊢
      rw [ho, q, q1]
      rfl
  · cases h2
end
end Tp
/-! Ts5: data of kinds, what the operations give on them. -/
namespace Tp
open PySem
section
variable {α β γ δ ε ζ τ σ : Type}
def eL (e : α → D) (xs : List α) : D := .list (xs.map e)
def eU (e : α → D) (xs : List α) : D := .tuple (xs.map e)
def eO (e : α → D) : Option α → D | none => .none | some a => e a
def eN : Unit → D := fun _ => .none
def eD : D → D := fun d => d
def eT1 (a : α → D) (p : α) : D := .tuple [a p]
def eT2 (a : α → D) (b : β → D) (p : α × β) : D := .tuple [a p.1, b p.2]
def eT3 (a : α → D) (b : β → D) (c : γ → D) (p : α × β × γ) : D := .tuple [a p.1, b p.2.1, c p.2.2]
def eT4 (a : α → D) (b : β → D) (c : γ → D) (d : δ → D) (p : α × β × γ × δ) : D := .tuple [a p.1, b p.2.1, c p.2.2.1, d p.2.2.2]
def eT5 (a : α → D) (b : β → D) (c : γ → D) (d : δ → D) (e : ε → D) (p : α × β × γ × δ × ε) : D := .tuple [a p.1, b p.2.1, c p.2.2.1, d p.2.2.2.1, e p.2.2.2.2]
def eT6 (a : α → D) (b : β → D) (c : γ → D) (d : δ → D) (e : ε → D) (f : ζ → D) (p : α × β × γ × δ × ε × ζ) : D := .tuple [a p.1, b p.2.1, c p.2.2.1, d p.2.2.2.1, e p.2.2.2.2.1, f p.2.2.2.2.2]
/-- a source of draws -/
abbrev Sc := Int × Int × Int
def eX (s : Sc) : D := .list [.int s.1, .int s.2.1, .int s.2.2]
/-! ### numbers -/
def smm (i j : Int) : Bool := sm i && sm j
def dvOk (j : Int) : Bool := decide (j ≠ 0) && sm j
def mdOk (j : Int) : Bool := decide (j ≠ 0)
def pwOk (i j : Int) : Bool := decide (0 ≤ j ∧ j ≤ 100 ∧ i.natAbs < 2 ^ 64)
theorem add_i (i j : Int) : BOp.add.f (.int i) (.int j) = some (.int (i + j)) := rfl
theorem sub_i (i j : Int) : BOp.sub.f (.int i) (.int j) = some (.int (i - j)) := rfl
theorem mul_i (i j : Int) (h : smm i j = true) : BOp.mul.f (.int i) (.int j) = some (.int (i * j)) := by
  show (if (sm i && sm j) = true then some (PyData.int (i * j)) else none) = _
  exact if_pos h
theorem div_i (i j : Int) (h : dvOk j = true) : BOp.div.f (.int i) (.int j) = some (.int (i.fdiv j)) := by
  unfold dvOk at h
  rw [Bool.and_eq_true, decide_eq_true_eq] at h
  show (if j ≠ 0 ∧ sm j = true then some (PyData.int (i.fdiv j)) else none) = _
  exact if_pos h
theorem mod_i (i j : Int) (h : mdOk j = true) : BOp.mod.f (.int i) (.int j) = some (.int (i.fmod j)) := by
  show (if j ≠ 0 then some (PyData.int (i.fmod j)) else none) = _
  exact if_pos (of_decide_eq_true h)
theorem pow_i (i j v : Int) (h : pwOk i j = true) (e : i ^ j.toNat = v) : BOp.pow.f (.int i) (.int j) = some (.int v) := by
  show (if 0 ≤ j ∧ j ≤ 100 ∧ i.natAbs < 2 ^ 64 then some (PyData.int (i ^ j.toNat)) else none) = _
  rw [if_pos (of_decide_eq_true h), e]
theorem neg_i (i : Int) : negD (.int i) = some (.int (-i)) := rfl
theorem lt_i (i j : Int) : COp.lt.f (.int i) (.int j) = some (.bool (decide (i < j))) := rfl
theorem le_i (i j : Int) : COp.le.f (.int i) (.int j) = some (.bool (decide (i ≤ j))) := rfl
theorem gt_i (i j : Int) : COp.gt.f (.int i) (.int j) = some (.bool (decide (j < i))) := rfl
theorem ge_i (i j : Int) : COp.ge.f (.int i) (.int j) = some (.bool (decide (j ≤ i))) := rfl
theorem abs_i (i : Int) : absD [.int i] = some (.int (if i < 0 then -i else i)) := rfl
theorem int_i (i : Int) : intD [.int i] = some (.int i) := rfl
theorem int_b (b : Bool) : intD [.bool b] = some (.int (if b then 1 else 0)) := rfl
def maxI (i j : Int) : Int := if j > i then j else i
def minI (i j : Int) : Int := if j < i then j else i
theorem max_i (i j : Int) : maxD [.int i, .int j] = some (.int (maxI i j)) := rfl
theorem min_i (i j : Int) : minD [.int i, .int j] = some (.int (minI i j)) := rfl
/-! ### rows -/
theorem ints_map : ∀ xs : List Int, intsOf (xs.map PyData.int) = some xs
  | [] => rfl
  | x :: xs => by rw [List.map_cons]; unfold intsOf; rw [ints_map]; rfl
theorem bools_map : ∀ xs : List Bool, boolsOf (xs.map PyData.bool) = some xs
  | [] => rfl
  | x :: xs => by rw [List.map_cons]; unfold boolsOf; rw [bools_map]; rfl
theorem sum_L (xs : List Int) : sumD [eL .int xs] = some (.int xs.sum) := by
  show (intsOf (xs.map PyData.int)).map (fun ns => PyData.int ns.sum) = _
  rw [ints_map]; rfl
theorem all_L (xs : List Bool) : allD [eL .bool xs] = some (.bool (xs.all id)) := by
  show (boolsOf (xs.map PyData.bool)).map (fun bs => PyData.bool (bs.all id)) = _
  rw [bools_map]; rfl
theorem max_L {xs : List Int} {v : Int} (h : (match xs with | n :: ns => some (maxL n ns) | [] => none) = some v) : maxD [eL .int xs] = some (.int v) := by
  unfold maxD eL
  simp only [ints_map]
  cases xs with
  | nil => cases h
  | cons n ns => cases h; rfl
theorem min_L {xs : List Int} {v : Int} (h : (match xs with | n :: ns => some (minL n ns) | [] => none) = some v) : minD [eL .int xs] = some (.int v) := by
  unfold minD eL
  simp only [ints_map]
  cases xs with
  | nil => cases h
  | cons n ns => cases h; rfl
def szA (xs ys : List α) : Bool := decide (xs.length + ys.length ≤ sizeLine)
theorem add_L {e : α → D} {xs ys : List α} (h : szA xs ys = true) : addD (eL e xs) (eL e ys) = some (eL e (xs ++ ys)) := by
  unfold addD eL
  simp only [List.length_map, List.map_append]
  rw [if_pos (of_decide_eq_true h)]
theorem cat_L {e : α → D} {xs ys : List α} (h : szA xs ys = true) : catD (eL e xs) (eL e ys) = some (eL e (xs ++ ys)) := by
  unfold eL catD
  simp only [List.length_map, List.map_append]
  rw [if_pos (of_decide_eq_true h)]
theorem add_U {e : α → D} {xs ys : List α} (h : szA xs ys = true) : addD (eU e xs) (eU e ys) = some (eU e (xs ++ ys)) := by
  unfold addD eU
  simp only [List.length_map, List.map_append]
  rw [if_pos (of_decide_eq_true h)]
theorem len_L {e : α → D} (xs : List α) : lenD [eL e xs] = some (.int (xs.length : Int)) := by unfold lenD eL; simp only [List.length_map]
theorem len_U {e : α → D} (xs : List α) : lenD [eU e xs] = some (.int (xs.length : Int)) := by unfold lenD eU; simp only [List.length_map]
theorem tup_L {e : α → D} (xs : List α) : tupleD [eL e xs] = some (eU e xs) := rfl
theorem tup_U {e : α → D} (xs : List α) : tupleD [eU e xs] = some (eU e xs) := rfl
theorem lst_L {e : α → D} (xs : List α) : listD [eL e xs] = some (eL e xs) := rfl
theorem lst_U {e : α → D} (xs : List α) : listD [eU e xs] = some (eL e xs) := rfl
theorem rev_L {e : α → D} (xs : List α) : revD (eL e xs) = some (eL e xs.reverse) := by unfold revD eL; simp only [List.map_reverse]
/-- the item at a place, counted from the end below 0 -/
def ixR (xs : List α) (i : Int) : Option α := if i < 0 then (if -(xs.length : Int) ≤ i then xs[(i + xs.length).toNat]? else none) else xs[i.toNat]?
theorem atI_map {e : α → D} (xs : List α) (i : Int) : L2.atI (xs.map e) i = (ixR xs i).map e := by
  unfold L2.atI L2.ixN ixR
  rw [List.length_map]
  by_cases h : i < 0
  · have h0 : ¬ 0 ≤ i := by omega
    rw [if_neg h0, if_pos h]
    by_cases h2 : -(xs.length : Int) ≤ i
    · rw [if_pos h2, if_pos h2, Option.bind_some, List.getElem?_map]
    · rw [if_neg h2, if_neg h2]; rfl
  · have h0 : 0 ≤ i := by omega
    rw [if_pos h0, if_neg h]
    by_cases h2 : i < (xs.length : Int)
    · rw [if_pos h2, Option.bind_some, List.getElem?_map]
    · rw [if_neg h2, List.getElem?_eq_none (by omega)]; rfl
theorem ix_L {e : α → D} {xs : List α} {i : Int} {a : α} (h : ixR xs i = some a) : ixD (eL e xs) (.int i) = some (e a) := by
  show L2.atI (xs.map e) i = _
  rw [atI_map, h]
  rfl
theorem ix_U {e : α → D} {xs : List α} {i : Int} {a : α} (h : ixR xs i = some a) : ixD (eU e xs) (.int i) = some (e a) := by
  show L2.atI (xs.map e) i = _
  rw [atI_map, h]
  rfl
def cutG (xs : List α) (lo hi : Option Int) : List α := (xs.drop (HT.sIx xs.length 0 lo)).take (HT.sIx xs.length xs.length hi - HT.sIx xs.length 0 lo)
theorem cut_map {e : α → D} (xs : List α) (lo hi : Option Int) : cutD (xs.map e) lo hi = (cutG xs lo hi).map e := by
  unfold cutD cutG
  rw [List.length_map, List.map_take, List.map_drop]
theorem slc_L {e : α → D} (xs : List α) (lo hi : Option Int) : slcD (eL e xs) lo hi = some (eL e (cutG xs lo hi)) := by unfold slcD eL; simp only [cut_map]
theorem slc_U {e : α → D} (xs : List α) (lo hi : Option Int) : slcD (eU e xs) lo hi = some (eU e (cutG xs lo hi)) := by unfold slcD eU; simp only [cut_map]
theorem cut_from (xs : List α) (i : Nat) : cutG xs (some (i : Int)) none = xs.drop i := by
  unfold cutG
  rw [HT.sIx_none, HT.sIx_nat]
  by_cases h : i ≤ xs.length
  · rw [Nat.min_eq_left h]
    exact List.take_of_length_le (by rw [List.length_drop]; exact Nat.le_refl _)
  · rw [Nat.min_eq_right (by omega), List.drop_of_length_le (Nat.le_refl _), List.drop_of_length_le (by omega)]
    exact List.take_nil
theorem cut_to (xs : List α) (i : Nat) : cutG xs none (some (i : Int)) = xs.take i := by
  unfold cutG
  rw [HT.sIx_none, HT.sIx_nat, Nat.sub_zero, List.drop_zero]
  by_cases h : i ≤ xs.length
  · rw [Nat.min_eq_left h]
  · rw [Nat.min_eq_right (by omega), List.take_of_length_le (Nat.le_refl _), List.take_of_length_le (by omega)]
theorem cut_one (xs : List α) : cutG xs (some 1) none = xs.drop 1 := cut_from xs 1
/-! ### equality -/
structure EqT (n : Nat) (e : α → D) : Prop where
  lay : ∀ x, (e x).canLay0 = true
  dep : ∀ x, (e x).depth ≤ n
  eq : ∀ x y, PyData.eqv (e x) (e y) = true ↔ x = y
theorem EqT.sh {n : Nat} {e : α → D} (h : EqT n e) (hn : n ≤ 64) (x : α) : SeqAt.shaped (e x) = true := by
  unfold SeqAt.shaped
  rw [h.lay, Bool.true_and, decide_eq_true_eq]
  exact Nat.le_trans (h.dep x) hn
theorem eqT_int : EqT 0 PyData.int := ⟨fun _ => rfl, fun _ => Nat.le_refl _, fun x y => by show (x == y) = true ↔ _; rw [beq_iff_eq]⟩
theorem eqT_bool : EqT 0 PyData.bool := ⟨fun _ => rfl, fun _ => Nat.le_refl _, fun x y => by show (x == y) = true ↔ _; rw [beq_iff_eq]⟩
theorem eqT_none : EqT 0 eN := ⟨fun _ => rfl, fun _ => Nat.le_refl _, fun x y => ⟨fun _ => rfl, fun _ => rfl⟩⟩
def nnD : D → Bool | .none => false | .dict _ => false | _ => true
theorem eqv_none {d : D} (h : nnD d = true) : PyData.eqv .none d = false ∧ PyData.eqv d .none = false := by cases d <;> first | (cases h; done) | exact ⟨rfl, rfl⟩
theorem eqT_O {n : Nat} {e : α → D} (h : EqT n e) (hn : ∀ x, nnD (e x) = true) : EqT n (eO e) := by
  refine ⟨fun x => ?_, fun x => ?_, fun x y => ?_⟩
  · cases x with
    | none => rfl
    | some x => exact h.lay x
  · cases x with
    | none => exact Nat.zero_le _
    | some x => exact h.dep x
  · cases x with
    | none =>
      cases y with
      | none => exact ⟨fun _ => rfl, fun _ => rfl⟩
      | some y => show PyData.eqv .none (e y) = true ↔ _; rw [(eqv_none (hn y)).1]; simp
    | some x =>
      cases y with
      | none => show PyData.eqv (e x) .none = true ↔ _; rw [(eqv_none (hn x)).2]; simp
      | some y => show PyData.eqv (e x) (e y) = true ↔ _; rw [h.eq]; simp
theorem lay_all {e : α → D} (h : ∀ x, (e x).canLay0 = true) : ∀ xs : List α, PyData.canLayAll0 (xs.map e) = true
  | [] => rfl
  | x :: xs => by rw [List.map_cons]; unfold PyData.canLayAll0; rw [h x, lay_all h xs]; rfl
theorem dep_all {n : Nat} {e : α → D} (h : ∀ x, (e x).depth ≤ n) : ∀ xs : List α, PyData.depthAll (xs.map e) ≤ n
  | [] => Nat.zero_le _
  | x :: xs => by rw [List.map_cons]; unfold PyData.depthAll; exact Nat.max_le.mpr ⟨h x, dep_all h xs⟩
theorem eqv_all {e : α → D} (h : ∀ x y, PyData.eqv (e x) (e y) = true ↔ x = y) : ∀ xs ys : List α, PyData.eqvAll (xs.map e) (ys.map e) = true ↔ xs = ys
  | [], [] => ⟨fun _ => rfl, fun _ => rfl⟩
  | [], y :: ys => ⟨fun z => (by cases z), fun z => (by cases z)⟩
  | x :: xs, [] => ⟨fun z => (by cases z), fun z => (by cases z)⟩
  | x :: xs, y :: ys => by
    rw [List.map_cons, List.map_cons]
    unfold PyData.eqvAll
    rw [Bool.and_eq_true, h, eqv_all h, List.cons.injEq]
theorem eqT_L {n : Nat} {e : α → D} (h : EqT n e) : EqT (n + 1) (eL e) := ⟨fun x => lay_all h.lay x, fun x => Nat.succ_le_succ (dep_all h.dep x), fun x y => eqv_all h.eq x y⟩
theorem eqT_U {n : Nat} {e : α → D} (h : EqT n e) : EqT (n + 1) (eU e) := ⟨fun x => lay_all h.lay x, fun x => Nat.succ_le_succ (dep_all h.dep x), fun x y => eqv_all h.eq x y⟩
theorem eqT_T1 {n : Nat} {a : α → D} (h : EqT n a) : EqT (n + 1) (eT1 a) := by
  refine ⟨fun x => ?_, fun x => ?_, fun x y => ?_⟩
  · show (PyData.canLay0 (a x) && true) = true
    rw [h.lay]; rfl
  · show max (a x).depth 0 + 1 ≤ n + 1
    have := h.dep x
    omega
  · show (PyData.eqv (a x) (a y) && true) = true ↔ _
    rw [Bool.and_true]
    exact h.eq x y
theorem eqT_T2 {n : Nat} {a : α → D} {b : β → D} (h : EqT n a) (h2 : EqT n b) : EqT (n + 1) (eT2 a b) := by
  refine ⟨fun x => ?_, fun x => ?_, fun x y => ?_⟩
  · show (PyData.canLay0 (a x.1) && (PyData.canLay0 (b x.2) && true)) = true
    rw [h.lay, h2.lay]; rfl
  · show max (a x.1).depth (max (b x.2).depth 0) + 1 ≤ n + 1
    have := h.dep x.1
    have := h2.dep x.2
    omega
  · show (PyData.eqv (a x.1) (a y.1) && (PyData.eqv (b x.2) (b y.2) && true)) = true ↔ _
    rw [Bool.and_true, Bool.and_eq_true, h.eq, h2.eq]
    exact ⟨fun ⟨p, q⟩ => Prod.ext p q, fun z => by subst z; exact ⟨rfl, rfl⟩⟩
theorem eqT_T3 {n : Nat} {a : α → D} {b : β → D} {c : γ → D} (h : EqT n a) (h2 : EqT n b) (h3 : EqT n c) : EqT (n + 1) (eT3 a b c) := by
  refine ⟨fun x => ?_, fun x => ?_, fun x y => ?_⟩
  · show (PyData.canLay0 (a x.1) && (PyData.canLay0 (b x.2.1) && (PyData.canLay0 (c x.2.2) && true))) = true
    rw [h.lay, h2.lay, h3.lay]; rfl
  · show max (a x.1).depth (max (b x.2.1).depth (max (c x.2.2).depth 0)) + 1 ≤ n + 1
    have := h.dep x.1
    have := h2.dep x.2.1
    have := h3.dep x.2.2
    omega
  · show (PyData.eqv (a x.1) (a y.1) && (PyData.eqv (b x.2.1) (b y.2.1) && (PyData.eqv (c x.2.2) (c y.2.2) && true))) = true ↔ _
    rw [Bool.and_true, Bool.and_eq_true, Bool.and_eq_true, h.eq, h2.eq, h3.eq]
    exact ⟨fun ⟨p, q, r⟩ => Prod.ext p (Prod.ext q r), fun z => by subst z; exact ⟨rfl, rfl, rfl⟩⟩
theorem eq_T [DecidableEq α] {n : Nat} {e : α → D} (h : EqT n e) (hn : n ≤ 64) (x y : α) : COp.eq.f (e x) (e y) = some (.bool (decide (x = y))) := by
  show eqD (e x) (e y) = _
  unfold eqD
  rw [if_pos ⟨h.sh hn x, h.sh hn y⟩]
  congr 2
  rw [Bool.eq_iff_iff, h.eq, decide_eq_true_eq]
theorem ne_T [DecidableEq α] {n : Nat} {e : α → D} (h : EqT n e) (hn : n ≤ 64) (x y : α) : COp.ne.f (e x) (e y) = some (.bool (decide (x ≠ y))) := by
  show neD (e x) (e y) = _
  unfold neD
  rw [if_pos ⟨h.sh hn x, h.sh hn y⟩]
  congr 2
  rw [Bool.eq_iff_iff, Bool.not_eq_true', decide_eq_true_eq, ← Bool.not_eq_true, h.eq]
theorem isn_O {e : α → D} (hn : ∀ x, nnD (e x) = true) (o : Option α) : COp.is_.f (eO e o) .none = some (.bool o.isNone) := by
  cases o with
  | none => rfl
  | some a =>
    show isND (e a) .none = _
    have := hn a
    unfold isND
    simp only
    cases h : e a <;> first | rfl | (rw [h] at this; cases this)
theorem nisn_O {e : α → D} (hn : ∀ x, nnD (e x) = true) (o : Option α) : COp.isnot.f (eO e o) .none = some (.bool o.isSome) := by
  cases o with
  | none => rfl
  | some a =>
    show notND (e a) .none = _
    have := hn a
    unfold notND
    simp only
    cases h : e a <;> first | rfl | (rw [h] at this; cases this)
def memD [DecidableEq α] (x : α) (ys : List α) : Bool := decide (x ∈ ys)
theorem in_T [DecidableEq α] {n : Nat} {e : α → D} (h : EqT n e) (hn : n + 1 ≤ 64) (x : α) (ys : List α) : COp.in_.f (e x) (eL e ys) = some (.bool (memD x ys)) := by
  unfold memD
  show inD (e x) (.list (ys.map e)) = _
  unfold inD
  simp only
  rw [if_pos ⟨h.sh (by omega) x, (eqT_L h).sh hn ys⟩]
  congr 2
  rw [Bool.eq_iff_iff, decide_eq_true_eq, List.any_map, List.any_eq_true]
  constructor
  · rintro ⟨y, h1, h2⟩
    rw [Function.comp_apply, h.eq] at h2
    exact h2 ▸ h1
  · intro h1
    exact ⟨x, h1, by rw [Function.comp_apply, h.eq]⟩
theorem notin_T [DecidableEq α] {n : Nat} {e : α → D} (h : EqT n e) (hn : n + 1 ≤ 64) (x : α) (ys : List α) : COp.notin.f (e x) (eL e ys) = some (.bool (!memD x ys)) := by
  show notInD (e x) (eL e ys) = _
  unfold notInD
  have := in_T h hn x ys
  have h2 : inD (e x) (eL e ys) = some (.bool (memD x ys)) := this
  rw [h2]
def srOk (xs : List Int) : Bool := decide (xs.length < 4000)
theorem srt_L {xs : List Int} (h : srOk xs = true) : srtD (eL .int xs) = some (eL .int (sortI xs)) := by
  unfold srtD eL
  simp only [ints_map, Option.bind_some]
  rw [if_pos (of_decide_eq_true h)]
/-! ### sources -/
def rngI (lo hi : Int) : List Int := (List.range (hi - lo).toNat).map fun i => lo + (i : Nat)
def rgOk (lo hi : Int) : Bool := decide (-(2 ^ 62) ≤ lo ∧ lo < 2 ^ 62 ∧ -(2 ^ 62) ≤ hi ∧ hi < 2 ^ 62)
theorem rngs_eq (lo hi : Int) : rngs lo (hi - lo).toNat = (rngI lo hi).map PyData.int := by
  unfold rngs rngI
  rw [List.map_map]
  rfl
def lgOk (lo hi : Int) : Bool := decide (-(2 ^ 62) ≤ lo ∧ lo < 2 ^ 62 ∧ -(2 ^ 62) ≤ hi ∧ hi < 2 ^ 62 ∧ (hi - lo).toNat ≤ 2 ^ 24)
theorem lrg_L {lo hi : Int} (h : lgOk lo hi = true) : lrgD (.int lo) (.int hi) = some (eL .int (rngI lo hi)) := by
  unfold lrgD eL
  exact (if_pos (of_decide_eq_true h)).trans (by rw [rngs_eq])
theorem lzp_L {e : α → D} {f : β → D} (xs : List α) (ys : List β) : lzpD (eL e xs) (eL f ys) = some (eL (eT2 e f) (xs.zip ys)) := by
  unfold lzpD eL zipD
  simp only [List.zip_map, List.map_map]
  rfl
theorem ce_rng1 {p : Pat} {r : R τ} {Q : QE Src τ} {j : Int} (h : rgOk 0 j = true) (q : Q ((rngI 0 j).map PyData.int, none) p r) : CE (rngA 1 [.inl (.int j)]) p r Q := fun e f => by
  have h := of_decide_eq_true h
  refine .inr (.inl ⟨_, e, p, ?_, f, q⟩)
  show M.of (if -(2 ^ 62) ≤ j ∧ j < 2 ^ 62 then some (rngs 0 j.toNat, none) else none) e = _
  rw [if_pos ⟨h.2.2.1, h.2.2.2⟩, ← rngs_eq, Int.sub_zero]
  rfl
theorem ce_rng2 {p : Pat} {r : R τ} {Q : QE Src τ} {i j : Int} (h : rgOk i j = true) (q : Q ((rngI i j).map PyData.int, none) p r) : CE (rngA 2 [.inl (.int i), .inl (.int j)]) p r Q := fun e f => by
  have h := of_decide_eq_true h
  refine .inr (.inl ⟨_, e, p, ?_, f, q⟩)
  show M.of (if -(2 ^ 62) ≤ i ∧ i < 2 ^ 62 ∧ -(2 ^ 62) ≤ j ∧ j < 2 ^ 62 then some (rngs i (j - i).toNat, none) else none) e = _
  rw [if_pos h, ← rngs_eq]
  rfl
theorem s_rng {P : PgI} {cf : Nat → List D → FRes} {es : IE} {p : Pat} {r : R τ} {Q : QE Src τ} (q : EA P cf es p r fun os p1 r1 => CE (rngA (arity es) os) p1 r1 Q) : ES P cf (.rng es) p r Q := ce_bind q
theorem s_zip {P : PgI} {cf : Nat → List D → FRes} {es : IE} {p : Pat} {r : R τ} {Q : QE Src τ} (q : EA P cf es p r fun os p1 r1 => CE (asZip os) p1 r1 Q) : ES P cf (.zip2 es) p r Q := ce_bind q
theorem zip_map {a : α → D} {b : β → D} (xs : List α) (ys : List β) : zipD (xs.map a) (ys.map b) = (xs.zip ys).map (eT2 a b) := by
  unfold zipD
  rw [List.zip_map, List.map_map]
  rfl
theorem ce_zipL {p : Pat} {r : R τ} {Q : QE Src τ} {a : α → D} {b : β → D} {xs : List α} {ys : List β} (q : Q ((xs.zip ys).map (eT2 a b), none) p r) : CE (asZip [.inl (eL a xs), .inl (eL b ys)]) p r Q := fun e f => .inr (.inl ⟨_, e, p, by
  show Res.ok (zipD (xs.map a) (ys.map b), none) e = _
  rw [zip_map], f, q⟩)
theorem ce_zipU {p : Pat} {r : R τ} {Q : QE Src τ} {a : α → D} {b : β → D} {xs : List α} {ys : List β} (q : Q ((xs.zip ys).map (eT2 a b), none) p r) : CE (asZip [.inl (eU a xs), .inl (eU b ys)]) p r Q := fun e f => .inr (.inl ⟨_, e, p, by
  show Res.ok (zipD (xs.map a) (ys.map b), none) e = _
  rw [zip_map], f, q⟩)
end
end Tp
/-! Ts6: further rules for printed proofs. -/
namespace Tp
open PySem
section
variable {α β γ τ σ ρ : Type} {p p' : Pat} {r : R τ} {P : PgI} {cf : Nat → List D → FRes} {a b c : IE}
theorem k_tail {Q : QS τ} {s : IS} (h : SK P cf s nextM p r Q) : CS (denS P cf s) p r Q := by
  have : CS (seqM (denS P cf s) nextM) p r Q := h
  rw [seq_next] at this
  exact this
theorem e_slc {Q : QE D τ} (q : EO P cf a p r fun o p1 r1 => CE (slcB (den P cf b) (isNil b)) p1 r1 fun l p2 r2 => CE (slcB (den P cf c) (isNil c)) p2 r2 fun h p3 r3 => CE (doSlc o l h) p3 r3 Q) : EE P cf (.slc a b c) p r Q := by
  show CE (M.bind (den P cf a).o fun o => M.bind (slcB (den P cf b) (isNil b)) fun lo => M.bind (slcB (den P cf c) (isNil c)) fun hi => doSlc o lo hi) p r Q
  refine ce_bind fun e f => ?_
  rcases q e f with q | ⟨x, e1, p1, h1, h2, h3⟩ | q
  · exact .inl q
  · refine .inr (.inl ⟨x, e1, p1, h1, h2, ce_bind fun e f => ?_⟩)
    rcases h3 e f with q | ⟨y, e2, p2, j1, j2, j3⟩ | q
    · exact .inl q
    · exact .inr (.inl ⟨y, e2, p2, j1, j2, ce_bind j3⟩)
    · exact .inr (.inr q)
  · exact .inr (.inr q)
theorem sb_nil {Q : QE (Option Int) τ} (q : Q none p r) : CE (slcB (den P cf .nil) (isNil .nil)) p r Q := ce_pure q
theorem sb_e {Q : QE (Option Int) τ} {ie : IE} (h : isNil ie = false) (q : EE P cf ie p r fun d p1 r1 => CE (asI d) p1 r1 Q) : CE (slcB (den P cf ie) (isNil ie)) p r Q := by
  rw [h]
  exact ce_bind q
theorem ce_asI {Q : QE (Option Int) τ} {i : Int} (q : Q (some i) p r) : CE (asI (.int i)) p r Q := fun e f => .inr (.inl ⟨some i, e, p, rfl, f, q⟩)
theorem ce_slc {Q : QE D τ} {o : Opd} {d d' : D} {lo hi : Option Int} (h : Rs p o d) (hg : slcD d lo hi = some d') (q : Q d' p r) : CE (doSlc o lo hi) p r Q := ce_op1 h hg q
theorem e_ifv {Q : QE D τ} {v : α → D} {y1 y2 : α} (q : EB P cf c p r fun k p1 r1 => (k = true → EE P cf a p1 (R.ok ()) fun d p' (_ : R Unit) => d = v y1 ∧ Weak p' p1) ∧ (k = false → EE P cf b p1 (R.ok ()) fun d p' (_ : R Unit) => d = v y2 ∧ Weak p' p1) ∧ Q (v (if k = true then y1 else y2)) p1 r1) : EE P cf (.ifx c a b) p r Q := by
  show CE (M.bind (den P cf c).b fun k => if k = true then (den P cf a).e else (den P cf b).e) p r Q
  refine ce_bind fun e f => ?_
  rcases q e f with q | ⟨k, e1, p1, h1, h2, h3, h4, h5⟩ | q
  · exact .inl q
  · refine .inr (.inl ⟨k, e1, p1, h1, h2, ?_⟩)
    cases k with
    | true => exact ce_val (h3 rfl) h5
    | false => exact ce_val (h4 rfl) h5
  · exact .inr (.inr q)
theorem elt_if {me : M D} {pf : Pat} {Q1 : QE D (Option β)} {k : Bool} {ra : R (Option β)} (h : k = true → CE me p ra Q1) (w : Weak p pf) : (k = true → CE me p (if k = true then ra else .ok none) Q1) ∧ (k = false → (if k = true then ra else .ok none) = .ok none ∧ Weak p pf) :=
  ⟨fun hk => by rw [if_pos hk]; exact h hk, fun hk => ⟨by rw [if_neg (by rw [hk]; simp)], w⟩⟩
theorem ix_lit {ds : List D} {d : D} (i : Nat) (h : ds[i]? = some d) : ixD (.tuple ds) (.int (i : Int)) = some d := by
  show L2.atI ds (i : Int) = _
  have := atI_map (e := fun x => x) ds (i : Int)
  rw [List.map_id'] at this
  rw [this]
  unfold ixR
  rw [if_neg (by omega), Int.toNat_natCast, h]
  rfl
theorem ix_litL {ds : List D} {d : D} (i : Nat) (h : ds[i]? = some d) : ixD (.list ds) (.int (i : Int)) = some d := by
  show L2.atI ds (i : Int) = _
  have := atI_map (e := fun x => x) ds (i : Int)
  rw [List.map_id'] at this
  rw [this]
  unfold ixR
  rw [if_neg (by omega), Int.toNat_natCast, h]
  rfl
theorem slc_Lf {e : α → D} (xs : List α) (i : Nat) : slcD (eL e xs) (some (i : Int)) none = some (eL e (xs.drop i)) := by rw [slc_L, cut_from]
theorem slc_Uf {e : α → D} (xs : List α) (i : Nat) : slcD (eU e xs) (some (i : Int)) none = some (eU e (xs.drop i)) := by rw [slc_U, cut_from]
theorem rs_eq {d d' : D} (h : d = d') : Rs p (.inl d) d' := by subst h; exact .v d
def oget [Inhabited α] (o : Option α) : α := o.getD default
theorem eO_get [Inhabited α] {e : α → D} {o : Option α} (h : o.isSome = true) : eO e o = e (oget o) := by
  cases o with
  | none => cases h
  | some a => rfl
@[simp] theorem oget_some [Inhabited α] (a : α) : oget (some a) = a := rfl
@[simp] theorem R.bind_ite {α β : Type} {c : Prop} [Decidable c] (a b : α) (k : α → R β) : R.bind (if c then .ok a else .ok b) k = k (if c then a else b) := by split <;> rfl
theorem ce_cast {m : M β} {Q : QE β τ} {x y : β} (h : x = y) (q : Q y p r) : Q x p r := h ▸ q
@[simp] theorem mapR_ok {f : α → β} : ∀ l : List α, mapR (fun a => .ok (f a)) l = .ok (l.map f)
  | [] => rfl
  | a :: l => by unfold mapR; rw [mapR_ok]; rfl
theorem mapR_of {f : α → R β} {g : α → β} : ∀ {l : List α}, (∀ a ∈ l, f a = .ok (g a)) → mapR f l = .ok (l.map g)
  | [], _ => rfl
  | a :: l, h => by
    unfold mapR
    rw [h a List.mem_cons_self, mapR_of fun x hx => h x (List.mem_cons_of_mem _ hx)]
    rfl
@[simp] theorem filR_ok {f : α → β} {q : α → Bool} : ∀ l : List α, filR (fun a => if q a = true then .ok (some (f a)) else .ok none) l = .ok ((l.filter q).map f)
  | [] => rfl
  | a :: l => by
    unfold filR
    rw [filR_ok]
    cases h : q a <;> simp [h]
theorem filR_of {f : α → R (Option β)} {g : α → β} {q : α → Bool} : ∀ {l : List α}, (∀ a ∈ l, f a = .ok (if q a = true then some (g a) else none)) → filR f l = .ok ((l.filter q).map g)
  | [], _ => rfl
  | a :: l, h => by
    unfold filR
    rw [h a List.mem_cons_self, filR_of fun x hx => h x (List.mem_cons_of_mem _ hx)]
    cases z : q a <;> simp [z]
theorem forT_of {b : α → σ → R σ} {g : σ → α → σ} : ∀ {l : List α} {s : σ}, (∀ a ∈ l, ∀ s, b a s = .ok (g s a)) → forT b l s = .ok (l.foldl g s)
  | [], _, _ => rfl
  | a :: l, s, h => by
    unfold forT
    rw [h a List.mem_cons_self, R.bind_ok, forT_of fun x hx => h x (List.mem_cons_of_mem _ hx)]
    rfl
theorem forT_inv {b : α → σ → R σ} {I : Nat → σ → Prop} : ∀ {l : List α} {n : Nat} {s : σ}, I n s → (∀ i a s, l[i]? = some a → I (n + i) s → ∃ s', b a s = .ok s' ∧ I (n + i + 1) s') → ∃ s', forT b l s = .ok s' ∧ I (n + l.length) s'
  | [], n, s, h, _ => ⟨s, rfl, h⟩
  | a :: l, n, s, h, hb => by
    obtain ⟨s1, h1, h2⟩ := hb 0 a s rfl h
    obtain ⟨s2, h3, h4⟩ := forT_inv (l := l) (n := n + 1) (s := s1) h2 fun i x sx hx hi => by
      have := hb (i + 1) x sx (by simpa using hx) (by rw [show n + (i + 1) = n + 1 + i by omega]; exact hi)
      rw [show n + (i + 1) = n + 1 + i by omega] at this
      exact this
    refine ⟨s2, ?_, by rw [List.length_cons, show n + (l.length + 1) = n + 1 + l.length by omega]; exact h4⟩
    unfold forT
    rw [h1, R.bind_ok, h3]
theorem mapS_inv {f : α → σ → R (β × σ)} {I : Nat → σ → Prop} {J : Nat → β → Prop} : ∀ {l : List α} {n : Nat} {s : σ}, I n s → (∀ i a s, l[i]? = some a → I (n + i) s → ∃ y s', f a s = .ok (y, s') ∧ J (n + i) y ∧ I (n + i + 1) s') → ∃ ys s', mapS f l s = .ok (ys, s') ∧ I (n + l.length) s' ∧ ys.length = l.length ∧ ∀ i y, ys[i]? = some y → J (n + i) y
  | [], n, s, h, _ => ⟨[], s, rfl, h, rfl, fun i y z => by cases z⟩
  | a :: l, n, s, h, hb => by
    obtain ⟨y, s1, h1, h2, h2'⟩ := hb 0 a s rfl h
    obtain ⟨ys, s2, h3, h4, h5, h6⟩ := mapS_inv (l := l) (n := n + 1) (s := s1) h2' fun i x sx hx hi => by
      have := hb (i + 1) x sx (by simpa using hx) (by rw [show n + (i + 1) = n + 1 + i by omega]; exact hi)
      rw [show n + (i + 1) = n + 1 + i by omega] at this
      exact this
    refine ⟨y :: ys, s2, ?_, by rw [List.length_cons, show n + (l.length + 1) = n + 1 + l.length by omega]; exact h4, by simp [h5], fun i z hz => ?_⟩
    · unfold mapS
      rw [h1]
      simp only [h3, R.bind_ok]
    · cases i with
      | zero => cases hz; exact h2
      | succ i =>
        have := h6 i z (by simpa using hz)
        rw [show n + (i + 1) = n + 1 + i by omega]
        exact this
/-- it gives a value with a property -/
def R.All {α : Type} (r : R α) (Q : α → Prop) : Prop := ∃ a, r = .ok a ∧ Q a
theorem R.All.bind {α β : Type} {r : R α} {k : α → R β} {Q : α → Prop} {S : β → Prop} (h : r.All Q) (hk : ∀ a, Q a → (k a).All S) : (r.bind k).All S := by
  obtain ⟨a, rfl, q⟩ := h
  exact hk a q
theorem R.All.draw {α β : Type} {r : R α} {k : α → R β} {Q : α → Prop} {S : β → Prop} (h : r.All Q) (hk : ∀ a, Q a → (k a).All S) : (r.draw k).All S := by
  obtain ⟨a, rfl, q⟩ := h
  exact hk a q
theorem R.All.guard {α : Type} {r : R α} {b : Bool} {Q : α → Prop} (h : b = true) (hk : r.All Q) : (r.guard b).All Q := by
  rw [R.guard_of h]
  exact hk
theorem R.All.of {α β : Type} {o : Option α} {k : α → R β} {S : β → Prop} {a : α} (h : o = some a) (hk : (k a).All S) : ((R.of o).bind k).All S := by
  subst h
  exact hk
end
end Tp
/-! Ts7: further rules for printed proofs, 2. -/
namespace Tp
open PySem
section
variable {α β γ τ σ ρ : Type} {p p' : Pat} {r : R τ} {P : PgI} {cf : Nat → List D → FRes} {a b c : IE} {cc : SM}
theorem eL_some {e : α → D} (xs : List α) : eL e xs = eL (eO e) (xs.map some) := by
  unfold eL
  rw [List.map_map]
  rfl
theorem e_varE {Q : QE D τ} {i : Nat} {d d' : D} (h : p[i]? = some (some (.val d))) (he : d = d') (q : Q d' p r) : EE P cf (.var i) p r Q := by subst he; exact e_var h q
theorem o_valE {Q : QE Opd τ} {i : Nat} {d d' : D} (h : p[i]? = some (some (.val d))) (he : d = d') (q : Q (.inl d') p r) : EO P cf (.var i) p r Q := by subst he; exact o_val h q
theorem cs_norm {Q : QS τ} {sm : SM} (h : p = p') (q : CS sm p' r Q) : CS sm p r Q := by subst h; exact q
theorem ce_norm {m : M β} {Q : QE β τ} (h : p = p') (q : CE m p' r Q) : CE m p r Q := by subst h; exact q
theorem eO_some {e : α → D} {o : Option α} {w : α} (h : o = some w) : eO e o = e w := by subst h; rfl
theorem isi_O {t : Ty5} {e : α → D} (h : ∀ x, isiD (e x) t = some true) (o : Option α) : (isiD (eO e o) t).map PyData.bool = some (.bool o.isSome) := by
  cases o with
  | none => rfl
  | some a => show (isiD (e a) t).map _ = _; rw [h]; rfl
theorem isi_Of {t : Ty5} {e : α → D} (h : ∀ x, isiD (e x) t = some false) (o : Option α) : (isiD (eO e o) t).map PyData.bool = some (.bool false) := by
  cases o with
  | none => rfl
  | some a => show (isiD (e a) t).map _ = _; rw [h]; rfl
theorem isi_O2 {t u : Ty5} {e : α → D} (h : ∀ x, isiAny (e x) [t, u] = some true) (o : Option α) : (isiAny (eO e o) [t, u]).map PyData.bool = some (.bool o.isSome) := by
  cases o with
  | none => rfl
  | some a => show (isiAny (e a) [t, u]).map _ = _; rw [h]; rfl
/-- a place may be added -/
def szP (xs : List α) : Bool := decide (xs.length < sizeLine)
theorem szP_lt {xs : List α} (h : xs.length < 100000) : szP xs = true := decide_eq_true (Nat.lt_of_lt_of_le h (by decide))
theorem szA_le {xs ys : List α} (h : xs.length + ys.length ≤ 100000) : szA xs ys = true := decide_eq_true (Nat.le_trans h (by decide))
theorem app_L {e : α → D} {xs : List α} {y : α} (h : szP xs = true) : appD (e y) (eL e xs) = some (eL e (xs ++ [y])) := by
  unfold eL
  show (if (xs.map e).length < sizeLine then some (PyData.list (xs.map e ++ [e y])) else none) = _
  rw [List.length_map, if_pos (of_decide_eq_true h), List.map_append]
  rfl
/-- a place is stored anew -/
def setR (xs : List α) (k : Int) (y : α) : Option (List α) := (L2.ixN xs.length k).map fun j => xs.set j y
theorem set_L {e : α → D} {xs ys : List α} {k : Int} {y : α} (h : setR xs k y = some ys) : setD (.int k) (e y) (eL e xs) = some (eL e ys) := by
  unfold setR at h
  show (L2.ixN (xs.map e).length k).map (fun j => PyData.list ((xs.map e).set j (e y))) = _
  rw [List.length_map]
  cases q : L2.ixN xs.length k with
  | none => rw [q] at h; cases h
  | some j =>
    rw [q] at h
    cases h
    show some (PyData.list ((xs.map e).set j (e y))) = some (PyData.list ((xs.set j y).map e))
    rw [List.map_set]
def maxO : List Int → Option Int | [] => none | n :: ns => some (maxL n ns)
def minO : List Int → Option Int | [] => none | n :: ns => some (minL n ns)
theorem maxO_L {xs : List Int} {v : Int} (h : maxO xs = some v) : maxD [eL .int xs] = some (.int v) := max_L (by cases xs <;> exact h)
theorem minO_L {xs : List Int} {v : Int} (h : minO xs = some v) : minD [eL .int xs] = some (.int v) := min_L (by cases xs <;> exact h)
theorem Pl.consE {d d' : D} {os : List Opd} {ds : List D} (h : d = d') (q : Pl os ds) : Pl (.inl d :: os) (d' :: ds) := by subst h; exact .cons q
theorem EqT.up {n m : Nat} {e : α → D} (h : EqT n e) (l : n ≤ m) : EqT m e := ⟨h.lay, fun x => Nat.le_trans (h.dep x) l, h.eq⟩
/-- a call whose value is known at once -/
theorem ce_call0 {Q : QE D τ} {f : List D → FRes} {os : List Opd} {ds : List D} {d : D} (h : Pl os ds) (hs : f ds = .ok d .none) (q : Q d p r) : CE (callM none f os) p r Q := fun e fi => by
  have ha : argD none os e = some ds := h.eq
  exact .inr (.inl ⟨d, e, p, by unfold callM; rw [ha]; simp only [hs]; rfl, fi, q⟩)
theorem ce_look0 {Q : QE D τ} {f : List D → FRes} {os : List Opd} {ds : List D} {d : D} (h : Rss p os ds) (hs : f ds = .ok d .none) (hf : flat d = true) (q : Q d p r) : CE (callS f os) p r Q := fun e fi => by
  have ha := h.res fi
  exact .inr (.inl ⟨d, e, p, by unfold callS; rw [ha]; simp only [hs, hf, if_true], fi, q⟩)
end
theorem I_fn' {H : PG} {g : Nat} {fd : FD} (h : H.fns.lookup g = some fd) : H.I.fn g = some ⟨fd.name, fd.io, fd.own⟩ := by
  show (H.fns.lookup g).map _ = _
  rw [h]
  rfl
theorem run_at' {H : PG} {n g : Nat} {fd : FD} (h : H.fns.lookup g = some fd) (ds : List D) : run H (n+1) g ds = runB H.I (run H n) fd ds := by simp only [run, h]
end Tp
namespace Tp
open PySem
/-- the law's own def -/
theorem fn_simB {α : Type} {PI : PgI} {cf : Nat → List D → FRes} {fd : FD} {ds : List D} {r : R α} {en : α → D} {p0 : Pat} (hl : ds.length = fd.ps.length) (hio : fd.io = none) (hp : initP fd.io ds (fd.N.length - fd.ps.length) = p0) (hb : SK PI cf fd.body nextM p0 r (EndQ fd.own (RQf none en noneD))) : Sim (runB PI cf fd ds) r en noneD := by
  subst hp
  have e0 : runB PI cf fd ds = endB fd.io fd.own (denS PI cf fd.body (initE fd.io ds ++ List.replicate (fd.N.length - fd.ps.length) .no)) := by
    unfold runB
    rw [if_pos hl]
  rw [e0]
  have hb := hb _ (fit_app (fit_all (initE fd.io ds)) (fit_rep (n := fd.N.length - fd.ps.length)))
  rw [seq_next] at hb
  rw [hio] at hb ⊢
  rcases hb with hb | hb | ⟨c, x, e', h1, h2⟩
  · rw [hb]; trivial
  · generalize denS PI cf fd.body _ = o at hb ⊢
    cases hb with
    | rt q =>
      obtain ⟨rfl, q⟩ := q
      rfl
    | nx ho q =>
      obtain ⟨q1, q⟩ := q
      unfold Sim endB outE
      rw [ho]
      show FRes.ok PyData.none .none = FRes.ok (en _) (noneD _)
      rw [← q1]
      rfl
  · rw [h1, h2]
    exact ⟨_, rfl⟩
end Tp
/-! Ts8: sorted of a set comprehension as a plain function. -/
namespace Tp
open PySem
def csTail (t : Tgt) (own : List Nat) (me : M D) (p : Src) : M D := fun e1 =>
  if p.1.length < 4000 ∧ srcOk p own = true then
    match (wipeE e1 own).bind (lcLoop t own (M.pure true) me p.1) with
    | some (ds, e2) => match srtD (.list ds) with | some d => .ok d (backE e1 e2 own) | none => .stuck
    | none => .stuck
  else .stuck
section
variable {α β τ : Type} {p : Pat} {r : R τ} {P : PgI} {cf : Nat → List D → FRes}
theorem csTail_eq {t : Tgt} {own : List Nat} {me : M D} {src : Src} (few : src.1.length < 4000) : csTail t own me src = M.bind (lcTail t own (M.pure true) me src) fun d => M.of (srtD d) := by
  funext e
  have few2 : src.1.length ≤ PySem.sizeLine := Nat.le_trans (Nat.le_of_lt few) (by decide)
  unfold csTail lcTail M.bind
  by_cases h : srcOk src own = true
  · simp only [few, few2, h, and_self, if_true]
    cases (wipeE e own).bind (lcLoop t own (M.pure true) me src.1) with
    | none => rfl
    | some q =>
      obtain ⟨ds, e2⟩ := q
      simp only
      cases srtD (.list ds) <;> rfl
  · simp only [h, and_false, if_false]
    simp
theorem e_scs {Q : QE D τ} {t : Tgt} {own : List Nat} {elt iter : IE} (q : ES P cf iter p r fun src p1 r1 => src.2 = none ∧ CE (csTail t own (den P cf elt).e src) p1 r1 Q) : EE P cf (.scs t own elt iter) p r Q := by
  show CE (M.bind (if pureIE P elt then (den P cf iter).s else noOwn (den P cf iter).s) (csTail t own (den P cf elt).e)) p r Q
  refine ce_bind fun e f => ?_
  rcases q e f with q | ⟨⟨s, j⟩, e1, p1, h1, h2, h3, h4⟩ | ⟨c, x, e1, h1, h2⟩
  · exact .inl q
  · have h3 : j = none := h3
    subst h3
    refine .inr (.inl ⟨(s, none), e1, p1, ?_, h2, h4⟩)
    split
    · exact h1
    · exact noOwn_ok h1
  · refine .inr (.inr ⟨c, x, e1, ?_, h2⟩)
    split
    · exact h1
    · unfold noOwn M.bind
      rw [h1]
def fewOk (xs : List α) : Bool := decide (xs.length < 4000)
theorem mapR_len {f : α → R β} : ∀ {l : List α} {ys : List β}, mapR f l = .ok ys → ys.length = l.length
  | [], ys, h => by cases h; rfl
  | a :: l, ys, h => by
    unfold mapR at h
    cases hf : f a with
    | bad => rw [hf] at h; cases h
    | exc c x => rw [hf] at h; cases h
    | ok b =>
      rw [hf] at h
      cases hm : mapR f l with
      | bad => simp only [hm] at h; cases h
      | exc c x => simp only [hm] at h; cases h
      | ok zs =>
        simp only [hm] at h
        cases h
        rw [List.length_cons, List.length_cons, mapR_len hm]
theorem ce_scs {Q : QE D τ} {t : Tgt} {own : List Nat} {me : M D} {src : Src} {l : List α} {g : α → D} {f : α → R Int} {k : List Int → R τ} (hs : src.1 = l.map g) (h2 : srcOk src own = true) (ho : own.all (okOwn p) = true)
    (he : ∀ a, ∃ pb, bindP t (g a) (forget p own) = some pb ∧ CE me pb (f a) fun d p3 r3 => ∃ y : Int, d = .int y ∧ r3 = .ok y ∧ Weak p3 (forget p own)) (q : ∀ ys, Q (eL .int (sortI ys)) p (k ys)) :
    CE (csTail t own me src) p (R.guard (fewOk l) (R.bind (mapR f l) fun ys => R.guard (srOk ys) (k ys))) Q := by
  refine ce_guard fun few => ?_
  have few := of_decide_eq_true few
  rw [csTail_eq (by rw [hs, List.length_map]; exact few)]
  have szl : szL l = true := decide_eq_true (Nat.le_trans (Nat.le_of_lt few) (by decide))
  refine ce_bind ?_
  have main := ce_map (Q := fun d p1 r1 => CE (M.of (srtD d)) p1 r1 Q) (k := fun ys => R.guard (srOk ys) (k ys)) (v := fun i => PyData.int i) hs h2 ho he fun ys => ce_guard fun h => by
    rw [show srtD (.list (ys.map fun i => PyData.int i)) = some (eL .int (sortI ys)) from srt_L h]
    exact fun e f => .inr (.inl ⟨_, e, p, rfl, f, q ys⟩)
  rw [szl] at main
  exact main
end
end Tp
/-! Ts9: texts as data; members of tuples. -/
namespace Tp
open PySem
/-- a text of proper signs -/
abbrev Tx := { x : Str // PyData.strOk x = true }
abbrev tx (x : Str) (h : PyData.strOk x = true := by decide +kernel) : Tx := ⟨x, h⟩
def eS (x : Tx) : D := .str x.1
theorem eqT_str : EqT 0 eS := ⟨fun x => x.2, fun _ => Nat.le_refl _, fun x y => by show (x.1 == y.1) = true ↔ _; rw [beq_iff_eq]; exact Subtype.ext_iff.symm⟩
theorem ownEq {A B : Pat} : ∀ {own : List Nat}, (own.map fun v => A[v]?) = (own.map fun v => B[v]?) → ∀ v, v ∈ own → A[v]? = B[v]?
  | [], _, v, h => by cases h
  | w :: own, e, v, h => by
    simp only [List.map_cons, List.cons.injEq] at e
    rcases List.mem_cons.mp h with rfl | h
    · exact e.1
    · exact ownEq e.2 v h
section
variable {α β γ δ : Type}
theorem in_TU [DecidableEq α] {n : Nat} {e : α → D} (h : EqT n e) (hn : n + 1 ≤ 64) (x : α) (ys : List α) : COp.in_.f (e x) (eU e ys) = some (.bool (memD x ys)) := by
  unfold memD
  show inD (e x) (.tuple (ys.map e)) = _
  unfold inD
  simp only
  rw [if_pos ⟨h.sh (by omega) x, (eqT_U h).sh hn ys⟩]
  congr 2
  rw [Bool.eq_iff_iff, decide_eq_true_eq, List.any_map, List.any_eq_true]
  constructor
  · rintro ⟨y, h1, h2⟩
    rw [Function.comp_apply, h.eq] at h2
    exact h2 ▸ h1
  · intro h1
    exact ⟨x, h1, by rw [Function.comp_apply, h.eq]⟩
theorem notin_TU [DecidableEq α] {n : Nat} {e : α → D} (h : EqT n e) (hn : n + 1 ≤ 64) (x : α) (ys : List α) : COp.notin.f (e x) (eU e ys) = some (.bool (!memD x ys)) := by
  show notInD (e x) (eU e ys) = _
  unfold notInD
  have := in_TU h hn x ys
  have h2 : inD (e x) (eU e ys) = some (.bool (memD x ys)) := this
  rw [h2]
end
end Tp
/-! Ts10: rows of data in order. -/
namespace Tp
open PySem
section
variable {α β γ δ : Type}
theorem sum_U (xs : List Int) : smD [eU .int xs] = some (.int xs.sum) := by
  show (intsOf (xs.map PyData.int)).map (fun ns => PyData.int ns.sum) = _
  rw [ints_map]; rfl
/-- data of a kind, in their order -/
structure OrdT (e : α → D) (lt : α → α → Bool) : Prop where
  al : ∀ x y, PySem.W.alike (e x) (e y) = true
  eq : ∀ x y, PySem.W.dataLt (e x) (e y) = lt x y
  irr : ∀ x, lt x x = false
  nn : ∀ x, e x ≠ .none
def ltI (x y : Int) : Bool := decide (x < y)
theorem ordT_int : OrdT PyData.int ltI := ⟨fun _ _ => rfl, PySem.W.dataLt_int, fun x => decide_eq_false (Int.lt_irrefl x), fun _ z => by cases z⟩
def ltS (x y : Tx) : Bool := decide (x.1.cps.toList < y.1.cps.toList)
theorem ordT_str : OrdT eS ltS := ⟨fun _ _ => rfl, fun x y => PySem.W.dataLt_str x.1 y.1, fun x => decide_eq_false (List.lt_irrefl _), fun _ z => by cases z⟩
def lt2 [DecidableEq α] (a : α → α → Bool) (b : β → β → Bool) (p q : α × β) : Bool := if p.1 = q.1 then b p.2 q.2 else a p.1 q.1
def lt3 [DecidableEq α] [DecidableEq β] (a : α → α → Bool) (b : β → β → Bool) (c : γ → γ → Bool) (p q : α × β × γ) : Bool := if p.1 = q.1 then (if p.2.1 = q.2.1 then c p.2.2 q.2.2 else b p.2.1 q.2.1) else a p.1 q.1
theorem tup_next {x y : D} {xs ys : List D} (h : PySem.W.alike x y = true) : PySem.W.dataLt (.tuple (x :: xs)) (.tuple (y :: ys)) = if PyData.eqv x y = true then PySem.W.dataLt (.tuple xs) (.tuple ys) else PySem.W.dataLt x y := by
  rw [PySem.W.dataLt_tuple, PySem.W.dataLt_tuple]
  by_cases e : PyData.eqv x y = true
  · rw [if_pos e, PySem.W.dataLt_all_yes h e]
  · rw [if_neg e, PySem.W.dataLt_all_no h (by simpa using e)]
theorem tup_nil : PySem.W.dataLt (.tuple []) (.tuple []) = false := rfl
theorem ordT_T2 [DecidableEq α] [DecidableEq β] {n m : Nat} {a : α → D} {b : β → D} {la : α → α → Bool} {lb : β → β → Bool} (ha : OrdT a la) (hb : OrdT b lb) (ea : EqT n a) (eb : EqT m b) : OrdT (eT2 a b) (lt2 la lb) := by
  refine ⟨fun x y => ?_, fun x y => ?_, fun x => by unfold lt2; rw [if_pos rfl]; exact hb.irr _, fun _ z => by cases z⟩
  · show PySem.W.alikeAll [a x.1, b x.2] [a y.1, b y.2] = true
    simp [PySem.W.alikeAll, ha.al, hb.al]
  · show PySem.W.dataLt (.tuple [a x.1, b x.2]) (.tuple [a y.1, b y.2]) = _
    rw [tup_next (ha.al _ _), tup_next (hb.al _ _), tup_nil, ha.eq, hb.eq]
    unfold lt2
    by_cases p : x.1 = y.1
    · rw [if_pos p, if_pos ((ea.eq _ _).mpr p)]
      by_cases q : x.2 = y.2
      · rw [if_pos ((eb.eq _ _).mpr q), q, hb.irr]
      · rw [if_neg fun z => q ((eb.eq _ _).mp z)]
    · rw [if_neg p, if_neg fun z => p ((ea.eq _ _).mp z)]
theorem ordT_T3 [DecidableEq α] [DecidableEq β] [DecidableEq γ] {n m k : Nat} {a : α → D} {b : β → D} {c : γ → D} {la : α → α → Bool} {lb : β → β → Bool} {lc : γ → γ → Bool} (ha : OrdT a la) (hb : OrdT b lb) (hc : OrdT c lc) (ea : EqT n a) (eb : EqT m b) (ec : EqT k c) : OrdT (eT3 a b c) (lt3 la lb lc) := by
  refine ⟨fun x y => ?_, fun x y => ?_, fun x => by unfold lt3; rw [if_pos rfl, if_pos rfl]; exact hc.irr _, fun _ z => by cases z⟩
  · show PySem.W.alikeAll [a x.1, b x.2.1, c x.2.2] [a y.1, b y.2.1, c y.2.2] = true
    simp [PySem.W.alikeAll, ha.al, hb.al, hc.al]
  · show PySem.W.dataLt (.tuple [a x.1, b x.2.1, c x.2.2]) (.tuple [a y.1, b y.2.1, c y.2.2]) = _
    rw [tup_next (ha.al _ _), tup_next (hb.al _ _), tup_next (hc.al _ _), tup_nil, ha.eq, hb.eq, hc.eq]
    unfold lt3
    by_cases p : x.1 = y.1
    · rw [if_pos p, if_pos ((ea.eq _ _).mpr p)]
      by_cases q : x.2.1 = y.2.1
      · rw [if_pos q, if_pos ((eb.eq _ _).mpr q)]
        by_cases r : x.2.2 = y.2.2
        · rw [if_pos ((ec.eq _ _).mpr r), r, hc.irr]
        · rw [if_neg fun z => r ((ec.eq _ _).mp z)]
      · rw [if_neg q, if_neg fun z => q ((eb.eq _ _).mp z)]
    · rw [if_neg p, if_neg fun z => p ((ea.eq _ _).mp z)]
/-- tuples of any length -/
def ltU [DecidableEq α] (a : α → α → Bool) : List α → List α → Bool
  | [], [] => false
  | [], _ :: _ => true
  | _ :: _, [] => false
  | x :: xs, y :: ys => if x = y then ltU a xs ys else a x y
theorem ltU_irr [DecidableEq α] (a : α → α → Bool) : ∀ xs : List α, ltU a xs xs = false
  | [] => rfl
  | x :: xs => by
    show (if x = x then ltU a xs xs else a x x) = false
    rw [if_pos rfl, ltU_irr a xs]
theorem alikeAll_map {a : α → D} {la : α → α → Bool} (ha : OrdT a la) : ∀ xs ys : List α, PySem.W.alikeAll (xs.map a) (ys.map a) = true
  | [], ys => by cases ys <;> rfl
  | x :: xs, [] => rfl
  | x :: xs, y :: ys => by
    show (PySem.W.alike (a x) (a y) && PySem.W.alikeAll (xs.map a) (ys.map a)) = true
    rw [ha.al, alikeAll_map ha xs ys]
    rfl
theorem lexU [DecidableEq α] {n : Nat} {a : α → D} {la : α → α → Bool} (ha : OrdT a la) (ea : EqT n a) : ∀ xs ys : List α, PySem.W.dataLt (.tuple (xs.map a)) (.tuple (ys.map a)) = ltU la xs ys
  | [], [] => rfl
  | [], y :: ys => rfl
  | x :: xs, [] => rfl
  | x :: xs, y :: ys => by
    rw [List.map_cons, List.map_cons, tup_next (ha.al _ _), lexU ha ea xs ys, ha.eq]
    show _ = (if x = y then ltU la xs ys else la x y)
    by_cases p : x = y
    · rw [if_pos p, if_pos ((ea.eq _ _).mpr p)]
    · rw [if_neg p, if_neg fun z => p ((ea.eq _ _).mp z)]
theorem ordT_U [DecidableEq α] {n : Nat} {a : α → D} {la : α → α → Bool} (ha : OrdT a la) (ea : EqT n a) : OrdT (eU a) (ltU la) := ⟨fun x y => alikeAll_map ha x y, fun x y => by
  exact lexU ha ea x y, ltU_irr la, fun _ z => by cases z⟩
/-- sorted by an order -/
def sortB (lt : α → α → Bool) (xs : List α) : List α := xs.mergeSort fun x y => !lt y x
theorem sortB_perm (lt : α → α → Bool) (xs : List α) : (sortB lt xs).Perm xs := List.mergeSort_perm _ _
theorem sortB_mem {lt : α → α → Bool} {xs : List α} {x : α} : x ∈ sortB lt xs ↔ x ∈ xs := (sortB_perm lt xs).mem_iff
theorem sortB_len (lt : α → α → Bool) (xs : List α) : (sortB lt xs).length = xs.length := (sortB_perm lt xs).length_eq
theorem srd_T {n : Nat} {e : α → D} {lt : α → α → Bool} (h : OrdT e lt) (he : EqT n e) (hn : n + 1 ≤ 64) (ht : (∀ x, tup1 (e x) = true) ∨ ∀ x, flat1 (e x) = true) (xs : List α) : srdD [eL e xs] = some (eL e (sortB lt xs)) := by
  have ok : srtOkD (xs.map e) = true := by
    unfold srtOkD
    rw [Bool.and_eq_true, Bool.and_eq_true, Bool.or_eq_true, List.all_eq_true]
    refine ⟨⟨fun d hd => ?_, ?_⟩, (eqT_L he).sh hn xs⟩
    · rw [List.all_eq_true]
      intro d' hd'
      obtain ⟨x, _, rfl⟩ := List.mem_map.mp hd
      obtain ⟨y, _, rfl⟩ := List.mem_map.mp hd'
      exact h.al x y
    · rcases ht with ht | ht
      · refine .inl (List.all_eq_true.mpr fun d hd => ?_)
        obtain ⟨x, _, rfl⟩ := List.mem_map.mp hd
        exact ht x
      · refine .inr (List.all_eq_true.mpr fun d hd => ?_)
        obtain ⟨x, _, rfl⟩ := List.mem_map.mp hd
        exact ht x
  unfold srdD eL
  simp only
  rw [if_pos ok]
  congr 2
  unfold sortB
  exact (List.map_mergeSort (r := fun x y => !lt y x) (s := leD) (f := e) (fun a _ b _ => by unfold leD; rw [h.eq])).symm
theorem mx0 {e : α → D} (h : ∀ x, intsOf [e x] = none) {xs : List α} : maxD [eL e xs] = none := by
  unfold maxD eL
  simp only
  cases xs with
  | nil => rfl
  | cons x xs =>
    have : intsOf ((x :: xs).map e) = none := by
      have := h x
      rw [List.map_cons]
      cases q : e x <;> rw [q] at this <;> first | rfl | (cases this; done)
    rw [this]
theorem mn0 {e : α → D} (h : ∀ x, intsOf [e x] = none) {xs : List α} : minD [eL e xs] = none := by
  unfold minD eL
  simp only
  cases xs with
  | nil => rfl
  | cons x xs =>
    have : intsOf ((x :: xs).map e) = none := by
      have := h x
      rw [List.map_cons]
      cases q : e x <;> rw [q] at this <;> first | rfl | (cases this; done)
    rw [this]
/-- the greatest, the least one -/
def mxB (lt : α → α → Bool) : List α → Option α | [] => none | x :: xs => some (xs.foldl (fun a y => if lt a y = true then y else a) x)
def mnB (lt : α → α → Bool) : List α → Option α | [] => none | x :: xs => some (xs.foldl (fun a y => if lt y a = true then y else a) x)
theorem mxOk_T {n : Nat} {e : α → D} {lt : α → α → Bool} (h : OrdT e lt) (he : EqT n e) (hn : n + 1 ≤ 64) (xs : List α) : mxOk (xs.map e) = true := by
  unfold mxOk
  rw [Bool.and_eq_true, Bool.and_eq_true, List.all_eq_true, List.all_eq_true]
  refine ⟨⟨fun d hd => ?_, fun d hd => ?_⟩, (eqT_L he).sh hn xs⟩
  · rw [List.all_eq_true]
    intro d' hd'
    obtain ⟨x, _, rfl⟩ := List.mem_map.mp hd
    obtain ⟨y, _, rfl⟩ := List.mem_map.mp hd'
    exact h.al x y
  · obtain ⟨x, _, rfl⟩ := List.mem_map.mp hd
    have := h.nn x
    cases q : e x <;> first | rfl | exact absurd q this
theorem fold_mx {e : α → D} {lt : α → α → Bool} (h : OrdT e lt) : ∀ (xs : List α) (x : α), (xs.map e).foldl (fun a y => if PySem.W.dataLt a y = true then y else a) (e x) = e (xs.foldl (fun a y => if lt a y = true then y else a) x)
  | [], _ => rfl
  | y :: xs, x => by
    rw [List.map_cons, List.foldl_cons, List.foldl_cons, h.eq]
    cases lt x y <;> exact fold_mx h xs _
theorem fold_mn {e : α → D} {lt : α → α → Bool} (h : OrdT e lt) : ∀ (xs : List α) (x : α), (xs.map e).foldl (fun a y => if PySem.W.dataLt y a = true then y else a) (e x) = e (xs.foldl (fun a y => if lt y a = true then y else a) x)
  | [], _ => rfl
  | y :: xs, x => by
    rw [List.map_cons, List.foldl_cons, List.foldl_cons, h.eq]
    cases lt y x <;> exact fold_mn h xs _
theorem mx_T {n : Nat} {e : α → D} {lt : α → α → Bool} (h : OrdT e lt) (he : EqT n e) (hn : n + 1 ≤ 64) {xs : List α} {v : α} {d : D} (hd : rowOf d = some (xs.map e)) (h0 : maxD [d] = none) (hv : mxB lt xs = some v) : mxD [d] = some (e v) := by
  unfold mxD
  rw [h0]
  unfold mxG
  simp only [hd]
  cases xs with
  | nil => cases hv
  | cons x xs =>
    cases hv
    have ok := mxOk_T h he hn (x :: xs)
    rw [List.map_cons] at ok ⊢
    simp only
    rw [if_pos ok]
    exact congrArg some (fold_mx h xs x)
theorem mn_T {n : Nat} {e : α → D} {lt : α → α → Bool} (h : OrdT e lt) (he : EqT n e) (hn : n + 1 ≤ 64) {xs : List α} {v : α} {d : D} (hd : rowOf d = some (xs.map e)) (h0 : minD [d] = none) (hv : mnB lt xs = some v) : mnD [d] = some (e v) := by
  unfold mnD
  rw [h0]
  unfold mxG
  simp only [hd]
  cases xs with
  | nil => cases hv
  | cons x xs =>
    cases hv
    have ok := mxOk_T h he hn (x :: xs)
    rw [List.map_cons] at ok ⊢
    simp only
    rw [if_pos ok]
    exact congrArg some (fold_mn h xs x)
end
end Tp
/-! Ts11: comprehensions with two fors, list(range(n)). -/
namespace Tp
open PySem PySem.Spec PyProof.Rows L2
def toO {β : Type} (r : R β) : R (Option β) := match r with | .ok b => .ok (some b) | .exc c x => .exc c x | .bad => .bad
def inTail (t1 : Tgt) (own1 : List Nat) (mc1 : M Bool) (me : M D) (p : Src) : M (List D) := fun e5 => match (wipeE e5 own1).bind (lcLoop t1 own1 mc1 me p.1) with | some q => .ok q.1 q.2 | none => .stuck
def inM (mc : M Bool) (mi1 : M Src) (t1 : Tgt) (own1 : List Nat) (mc1 : M Bool) (me : M D) : M (List D) := M.bind mc fun b => if b then M.bind mi1 (inTail t1 own1 mc1 me) else M.pure []
def lcTail2 (t : Tgt) (own : List Nat) (mc : M Bool) (mi1 : M Src) (t1 : Tgt) (own1 : List Nat) (mc1 : M Bool) (me : M D) (p : Src) : M D := fun e1 =>
  match (wipeE e1 own).bind (lcLoop2 t own mc mi1 t1 own1 mc1 me p.1) with
  | some (ds, e2) => if ds.length ≤ sizeLine then .ok (.list ds) (backE e1 e2 own) else .stuck
  | none => .stuck
section
variable {α β γ τ σ ρ : Type} {p p' : Pat} {r : R τ} {P : PgI} {cf : Nat → List D → FRes}
theorem lcLoop2_in {t : Tgt} {own : List Nat} {mc : M Bool} {mi1 : M Src} {t1 : Tgt} {own1 : List Nat} {mc1 : M Bool} {me : M D} {d : D} {ds as : List D} {e e3 e7 e8 : Env} {r : List D × Env} (h1 : t.bind d e = some e3) (h2 : inM mc mi1 t1 own1 mc1 me e3 = .ok as e7) (h3 : wipeE e7 own = some e8) (h4 : lcLoop2 t own mc mi1 t1 own1 mc1 me ds e8 = some r) : lcLoop2 t own mc mi1 t1 own1 mc1 me (d :: ds) e = some (as ++ r.1, r.2) := by
  unfold lcLoop2
  rw [h1, Option.bind_some]
  unfold inM M.bind at h2
  cases hm : mc e3 with
  | stuck => rw [hm] at h2; cases h2
  | exc c x e4 => rw [hm] at h2; cases h2
  | ok b e4 =>
    rw [hm] at h2
    cases b with
    | false =>
      simp only [Bool.false_eq_true, if_false, M.pure] at h2 ⊢
      cases h2
      rw [h3, Option.bind_some, h4]
      rfl
    | true =>
      simp only [if_true] at h2 ⊢
      cases hi : mi1 e4 with
      | stuck => rw [hi] at h2; cases h2
      | exc c x e5 => rw [hi] at h2; cases h2
      | ok q e5 =>
        rw [hi] at h2
        simp only [inTail] at h2 ⊢
        cases hw : wipeE e5 own1 with
        | none => rw [hw] at h2; cases h2
        | some e6 =>
          rw [hw, Option.bind_some] at h2
          rw [Option.bind_some]
          cases hl : lcLoop t1 own1 mc1 me q.1 e6 with
          | none => rw [hl] at h2; cases h2
          | some z =>
            rw [hl] at h2
            cases h2
            rw [Option.bind_some, h3, Option.bind_some, h4]
            rfl
theorem e_lc2 {Q : QE D τ} {t t1 : Tgt} {own own1 : List Nat} {elt iter cond iter1 cond1 : IE} (q : ES P cf iter p r fun src p1 r1 => src.2 = none ∧ CE (lcTail2 t own (condM P cf cond) (noOwn (den P cf iter1).s) t1 own1 (condM P cf cond1) (den P cf elt).e src) p1 r1 Q) : EE P cf (.lc2 t own elt iter cond t1 own1 iter1 cond1) p r Q := by
  show CE (M.bind (noOwn (den P cf iter).s) (lcTail2 t own (condM P cf cond) (noOwn (den P cf iter1).s) t1 own1 (condM P cf cond1) (den P cf elt).e)) p r Q
  refine ce_bind fun e f => ?_
  rcases q e f with q | ⟨⟨s, j⟩, e1, p1, h1, h2, h3, h4⟩ | ⟨c, x, e1, h1, h2⟩
  · exact .inl q
  · have h3 : j = none := h3
    subst h3
    exact .inr (.inl ⟨(s, none), e1, p1, noOwn_ok h1, h2, h4⟩)
  · refine .inr (.inr ⟨c, x, e1, ?_, h2⟩)
    unfold noOwn M.bind
    rw [h1]
theorem e_in {Q : QE (List D) τ} {t1 : Tgt} {own1 : List Nat} {iter1 : IE} {mc1 : M Bool} {me : M D} (q : ES P cf iter1 p r fun src p1 r1 => src.2 = none ∧ CE (inTail t1 own1 mc1 me src) p1 r1 Q) : CE (inM (M.pure true) (noOwn (den P cf iter1).s) t1 own1 mc1 me) p r Q := by
  show CE (M.bind (noOwn (den P cf iter1).s) (inTail t1 own1 mc1 me)) p r Q
  refine ce_bind fun e f => ?_
  rcases q e f with q | ⟨⟨s, j⟩, e1, p1, h1, h2, h3, h4⟩ | ⟨c, x, e1, h1, h2⟩
  · exact .inl q
  · have h3 : j = none := h3
    subst h3
    exact .inr (.inl ⟨(s, none), e1, p1, noOwn_ok h1, h2, h4⟩)
  · refine .inr (.inr ⟨c, x, e1, ?_, h2⟩)
    unfold noOwn M.bind
    rw [h1]
theorem filR_no {f : α → R (Option β)} {c : Nat} {x : D} : ∀ {l : List α}, filR f l ≠ .exc c x := by
  intro l
  induction l with
  | nil => intro z; cases z
  | cons a l ih =>
    intro z
    unfold filR at z
    split at z
    · cases hq : filR f l with
      | ok _ => rw [hq] at z; cases z
      | bad => rw [hq] at z; cases z
      | exc _ _ => rw [hq] at z; cases z; exact ih hq
    · exact ih z
    · cases z
theorem ce_inFil {Q : QE (List D) τ} {t : Tgt} {own : List Nat} {mc : M Bool} {me : M D} {src : Src} {l : List α} {g : α → D} {v : β → D} {f : α → R (Option β)} {k : List β → R τ} (hs : src.1 = l.map g) (ho : own.all (okOwn p) = true) (he : ∀ a, ∃ pb, bindP t (g a) (forget p own) = some pb ∧ Elt mc me (forget p own) pb v (f a)) (q : ∀ ys, Q (ys.map v) (forget p own) (k ys)) : CE (inTail t own mc me src) p (R.bind (filR f l) k) Q := fun e fi => by
  cases hm : filR f l with
  | bad => exact .inl rfl
  | exc c x => exact absurd hm filR_no
  | ok ys =>
    obtain ⟨e2, w1, w2⟩ := wipe_fit (forget_unk ho) (forget_fit ho fi)
    obtain ⟨e3, i1, i2⟩ := lc_fil (forget_unk ho) he w2 hm
    refine .inr (.inl ⟨_, e3, forget p own, ?_, i2, q ys⟩)
    unfold inTail
    rw [hs, w1, Option.bind_some, i1]
theorem elt_of {me : M D} {pb pf : Pat} {v : β → D} {r : R β} (b2 : CE me pb r fun d p3 r3 => ∃ y, d = v y ∧ r3 = .ok y ∧ Weak p3 pf) : Elt (M.pure true) me pf pb v (toO r) := fun e fi => by
  rcases b2 e fi with b2 | ⟨x, e1, p1, h1, h2, y, rfl, h4, h5⟩ | ⟨c, x, e1, h1, h2⟩
  · exact .inl (by rw [b2]; rfl)
  · refine .inr (.inl ⟨true, e, pb, rfl, fi, fun _ => ?_, fun z => by cases z⟩)
    intro e' fi'
    rcases b2 e' fi' with b2 | ⟨x, e1, p1, h1, h2, y, rfl, h4, h5⟩ | ⟨c, x, e1, h1, h2⟩
    · rw [b2] at h4; cases h4
    · exact .inr (.inl ⟨_, e1, p1, h1, h2, y, rfl, by rw [h4]; rfl, h5⟩)
    · rw [h2] at h4; cases h4
  · refine .inr (.inl ⟨true, e, pb, rfl, fi, fun _ => ?_, fun z => by cases z⟩)
    intro e' fi'
    rcases b2 e' fi' with b2 | ⟨x, e1, p1, h1, h2', y, rfl, h4, h5⟩ | ⟨c', x', e1', h1', h2'⟩
    · rw [b2] at h2; cases h2
    · rw [h4] at h2; cases h2
    · exact .inr (.inr ⟨c', x', e1', h1', by rw [h2']; rfl⟩)
theorem ce_inMap {Q : QE (List D) τ} {t : Tgt} {own : List Nat} {me : M D} {src : Src} {l : List α} {g : α → D} {v : β → D} {f : α → R β} {k : List β → R τ} (hs : src.1 = l.map g) (ho : own.all (okOwn p) = true) (he : ∀ a, ∃ pb, bindP t (g a) (forget p own) = some pb ∧ CE me pb (f a) fun d p3 r3 => ∃ y, d = v y ∧ r3 = .ok y ∧ Weak p3 (forget p own)) (q : ∀ ys, Q (ys.map v) (forget p own) (k ys)) : CE (inTail t own (M.pure true) me src) p (R.bind (mapR f l) k) Q := by
  have e1 : mapR f l = filR (fun a => toO (f a)) l := filR_map.symm
  rw [e1]
  refine ce_inFil hs ho (fun a => ?_) q
  obtain ⟨pb, b1, b2⟩ := he a
  exact ⟨pb, b1, elt_of b2⟩
theorem lc2_map {t t1 : Tgt} {own own1 : List Nat} {mc mc1 : M Bool} {mi1 : M Src} {me : M D} {pf : Pat} {g : α → D} {v : β → D} {f : α → R (List β)} (hu : own.all (unk pf) = true)
    (he : ∀ a, ∃ pb, bindP t (g a) pf = some pb ∧ CE (inM mc mi1 t1 own1 mc1 me) pb (f a) fun ds p3 r3 => ∃ ys, ds = ys.map v ∧ r3 = .ok ys ∧ Weak p3 pf) : ∀ {l : List α} {e : Env} {yss : List (List β)}, Fit pf e → mapR f l = .ok yss → ∃ e', lcLoop2 t own mc mi1 t1 own1 mc1 me (l.map g) e = some (yss.flatten.map v, e') ∧ Fit pf e'
  | [], e, ys, h, hf => by
    cases hf
    exact ⟨e, rfl, h⟩
  | a :: l, e, ys, h, hf => by
    obtain ⟨pb, b1, b2⟩ := he a
    obtain ⟨e3, h1, h2⟩ := bindP_fit b1 h
    unfold mapR at hf
    have b2 := b2 e3 h2
    cases hfa : f a with
    | bad => rw [hfa] at hf; cases hf
    | exc c x => rw [hfa] at hf; cases hf
    | ok o =>
      rw [hfa] at hf b2
      rcases b2 with b2 | ⟨ds, e4, p4, k1, k2, ys1, rfl, k4, k5⟩ | ⟨c, x, e4, k1, k2⟩
      · cases b2
      · cases k4
        obtain ⟨e6, w1, w2⟩ := wipe_fit hu (k5.fit k2)
        cases hm : mapR f l with
        | bad => rw [hm] at hf; cases hf
        | exc c x => rw [hm] at hf; cases hf
        | ok zs =>
          rw [hm] at hf
          cases hf
          obtain ⟨e7, i1, i2⟩ := lc2_map hu he (l := l) w2 hm
          refine ⟨e7, ?_, i2⟩
          rw [List.map_cons, lcLoop2_in h1 k1 w1 i1]
          simp
      · cases k2
theorem ce_map2 {Q : QE D τ} {t t1 : Tgt} {own own1 : List Nat} {mc mc1 : M Bool} {mi1 : M Src} {me : M D} {src : Src} {l : List α} {g : α → D} {v : β → D} {f : α → R (List β)} {k : List (List β) → R τ} (hs : src.1 = l.map g) (ho : own.all (okOwn p) = true)
    (he : ∀ a, ∃ pb, bindP t (g a) (forget p own) = some pb ∧ CE (inM mc mi1 t1 own1 mc1 me) pb (f a) fun ds p3 r3 => ∃ ys, ds = ys.map v ∧ r3 = .ok ys ∧ Weak p3 (forget p own)) (q : ∀ yss, Q (.list (yss.flatten.map v)) p (k yss)) :
    CE (lcTail2 t own mc mi1 t1 own1 mc1 me src) p (R.bind (mapR f l) fun yss => R.guard (szL yss.flatten) (k yss)) Q := fun e fi => by
  cases hm : mapR f l with
  | bad => exact .inl rfl
  | exc c x => rw [← filR_map] at hm; exact absurd hm filR_no
  | ok yss =>
    obtain ⟨e2, w1, w2⟩ := wipe_fit (forget_unk ho) (forget_fit ho fi)
    obtain ⟨e3, i1, i2⟩ := lc2_map (forget_unk ho) he w2 hm
    simp only [R.bind]
    unfold R.guard
    by_cases hz : szL yss.flatten = true
    · rw [if_pos hz]
      refine .inr (.inl ⟨_, backE e e3 own, p, ?_, back_fit ho fi i2, q yss⟩)
      unfold lcTail2
      rw [hs, w1, Option.bind_some, i1]
      simp only
      rw [if_pos]
      rw [List.length_map]
      exact of_decide_eq_true hz
    · rw [if_neg hz]
      exact .inl rfl
theorem e_lrg1 {a : IE} {Q : QE D τ} (q : EO P cf a p r fun o p1 r1 => CE (doOp1 lrg1D o) p1 r1 Q) : EE P cf (.lrg1 a) p r Q := ce_bind q
theorem lrg1_L {hi : Int} (h : lgOk 0 hi = true) : lrg1D (.int hi) = some (eL .int (rngI 0 hi)) := lrg_L h
end
end Tp
namespace Tp
open PySem PySem.Spec PyProof.Rows L2
def f1_is_integer : FD := ⟨"is_integer", ["value"], ["value"], none, false,
  (.cons (.ret (.and_ (.cons (.isi1 .int (.var 0)) (.cons (.not_ (.isi1 .bool (.var 0))) .nil)))) .nil)⟩
def f2_is_short : FD := ⟨"is_short", ["value", "digits"], ["value", "digits"], none, false,
  (.cons (.ret (.and_ (.cons (.call 1 (.cons (.var 0) .nil)) (.cons (.cmp .lt (.bi .abs (.cons (.var 0) .nil)) (.var 1)) .nil)))) .nil)⟩
def f15_is_natural : FD := ⟨"is_natural", ["value"], ["value"], none, false,
  (.cons (.ret (.and_ (.cons (.call 1 (.cons (.var 0) .nil)) (.cons (.chain .le .le (.lit (.int 0)) (.var 0) (.glob "GREATEST")) .nil)))) .nil)⟩
def f16_check_natural : FD := ⟨"check_natural", ["value"], ["value"], none, false,
  (.cons (.ite (.not_ (.call 15 (.cons (.var 0) .nil))) (.cons .never .nil) .nil) .nil)⟩
def f3_is_curve_c1 : IE := .lc (.one 3) [3] (.call 2 (.cons (.var 3) (.cons (.glob "GREATEST") .nil))) (.var 2) .nil
theorem d_f3_is_curve_c1 (P : PgI) (cf : Nat → List D → FRes) : den P cf f3_is_curve_c1 = Den.of (lcE P cf f3_is_curve_c1) := rfl
def f3_is_curve_l1 : IS := .for_ (.one 2) (.var 0) (.cons (.ite (.or_ (.cons (.not_ (.isi1 .tuple (.var 2))) (.cons (.cmp .ne (.bi .len (.cons (.var 2) .nil)) (.lit (.int 3))) .nil))) (.cons (.ret (.lit (.bool false))) .nil) .nil) (.cons (.ite (.or_ (.cons (.not_ (.bi .all (.cons f3_is_curve_c1 .nil))) (.cons (.cmp .le (.ix (.var 2) (.lit (.int 0))) (.var 1)) .nil))) (.cons (.ret (.lit (.bool false))) .nil) .nil) (.cons (.asg (.one 1) (.ix (.var 2) (.lit (.int 0)))) .nil))) [2]
def f3_is_curve : FD := ⟨"is_curve", ["value"], ["value", "last", "piece", "number"], none, false,
  (.cons (.ite (.or_ (.cons (.not_ (.isi1 .tuple (.var 0))) (.cons (.not_ (.chain .le .le (.lit (.int 1)) (.bi .len (.cons (.var 0) .nil)) (.glob "MOST_PIECES"))) .nil))) (.cons (.ret (.lit (.bool false))) .nil) .nil) (.cons (.asg (.one 1) (.neg (.lit (.int 1)))) (.cons f3_is_curve_l1 (.cons (.ret (.cmp .eq (.ix (.ix (.var 0) (.lit (.int 0))) (.lit (.int 0))) (.lit (.int 0)))) .nil))))⟩
def f17_check_curve : FD := ⟨"check_curve", ["value"], ["value"], none, false,
  (.cons (.ite (.not_ (.call 3 (.cons (.var 0) .nil))) (.cons .never .nil) .nil) .nil)⟩
def f18_piece_at_l1 : IS := .for_ (.one 3) (.var 0) (.cons (.ite (.cmp .le (.ix (.var 3) (.lit (.int 0))) (.var 1)) (.cons (.asg (.one 2) (.var 3)) .nil) .nil) .nil) [3]
def f18_piece_at : FD := ⟨"piece_at", ["curve", "x"], ["curve", "x", "found", "piece"], none, false,
  (.cons (.asg (.one 2) (.ix (.var 0) (.lit (.int 0)))) (.cons f18_piece_at_l1 (.cons (.ret (.var 2)) .nil)))⟩
def f19_worth : FD := ⟨"worth", ["curve", "x"], ["curve", "x", "start", "first", "slope"], none, false,
  (.cons (.asg (.many [2, 3, 4]) (.call 18 (.cons (.var 0) (.cons (.var 1) .nil)))) (.cons (.ret (.bin .add (.var 3) (.bin .mul (.var 4) (.bin .sub (.var 1) (.var 2))))) .nil))⟩
def f75_corners_c1 : IE := .lc (.one 3) [3] (.bin .sub (.var 3) (.lit (.int 1))) (.var 1) (.cmp .gt (.var 3) (.lit (.int 0)))
theorem d_f75_corners_c1 (P : PgI) (cf : Nat → List D → FRes) : den P cf f75_corners_c1 = Den.of (lcE P cf f75_corners_c1) := rfl
def f75_corners_c2 : IE := .lc (.one 2) [2] (.ix (.var 2) (.lit (.int 0))) (.var 0) .nil
theorem d_f75_corners_c2 (P : PgI) (cf : Nat → List D → FRes) : den P cf f75_corners_c2 = Den.of (lcE P cf f75_corners_c2) := rfl
def f75_corners : FD := ⟨"corners", ["curve"], ["curve", "starts", "piece", "start"], none, false,
  (.cons (.asg (.one 1) f75_corners_c2) (.cons (.ret (.srt (.bin .add (.var 1) f75_corners_c1))) .nil))⟩
def f94_check_parts : FD := ⟨"check_parts", ["parts"], ["parts"], none, false,
  (.cons (.ite (.or_ (.cons (.not_ (.call 1 (.cons (.var 0) .nil))) (.cons (.not_ (.chain .le .le (.lit (.int 1)) (.var 0) (.glob "MOST_PARTS"))) .nil))) (.cons .never .nil) .nil) .nil)⟩
def f95_picked_c1 : IE := .lc (.one 5) [5] (.bin .add (.tup (.cons (.ix (.var 0) (.var 4)) .nil)) (.var 5)) (.call 95 (.cons (.slc (.var 0) (.var 4) .nil) (.cons (.bin .sub (.var 1) (.ix (.var 0) (.var 4))) (.cons (.bin .sub (.var 2) (.lit (.int 1))) .nil)))) .nil
theorem d_f95_picked_c1 (P : PgI) (cf : Nat → List D → FRes) : den P cf f95_picked_c1 = Den.of (lcE P cf f95_picked_c1) := rfl
def f95_picked_l1 : IS := .for_ (.one 4) (.rng (.cons (.bi .len (.cons (.var 0) .nil)) .nil)) (.cons (.ite (.cmp .le (.bin .mul (.ix (.var 0) (.var 4)) (.var 2)) (.var 1)) (.cons (.asg (.one 3) (.bin .add (.var 3) f95_picked_c1)) .nil) .nil) .nil) [4]
def f95_picked : FD := ⟨"picked", ["items", "total", "many"], ["items", "total", "many", "found", "k", "rest"], none, false,
  (.cons (.ite (.cmp .eq (.var 2) (.lit (.int 0))) (.cons (.ret (.lst (.cons (.tup .nil) .nil))) .nil) .nil) (.cons (.asg (.one 3) (.lst .nil)) (.cons f95_picked_l1 (.cons (.ret (.var 3)) .nil))))⟩
def f96_all_splits_c1 : IE := .lc (.one 6) [6] (.call 19 (.cons (.var 0) (.cons (.var 6) .nil))) (.var 5) .nil
theorem d_f96_all_splits_c1 (P : PgI) (cf : Nat → List D → FRes) : den P cf f96_all_splits_c1 = Den.of (lcE P cf f96_all_splits_c1) := rfl
def f96_all_splits_l1 : IS := .for_ (.one 4) (.call 95 (.cons (.call 75 (.cons (.var 0) .nil)) (.cons (.var 1) (.cons (.bin .sub (.var 2) (.lit (.int 1))) .nil)))) (.cons (.asg (.one 5) (.bin .add (.var 4) (.tup (.cons (.bin .sub (.var 1) (.bi .sum (.cons (.var 4) .nil))) .nil)))) (.cons (.app 3 (.tup (.cons (.bi .sum (.cons f96_all_splits_c1 .nil)) (.cons (.var 5) .nil)))) .nil)) [4, 5]
def f96_all_splits : FD := ⟨"all_splits", ["curve", "total", "parts"], ["curve", "total", "parts", "found", "some", "row", "part"], none, false,
  (.cons (.asgO 3 (.lst .nil)) (.cons f96_all_splits_l1 (.cons (.ret (.frz 3)) .nil)))⟩
def f97_check_split : FD := ⟨"check_split", ["curve", "total", "parts"], ["curve", "total", "parts"], none, false,
  (.cons (.expr (.call 17 (.cons (.var 0) .nil))) (.cons (.expr (.call 16 (.cons (.var 1) .nil))) (.cons (.expr (.call 94 (.cons (.var 2) .nil))) .nil)))⟩
def f98_best_split : FD := ⟨"best_split", ["curve", "total", "parts"], ["curve", "total", "parts"], none, false,
  (.cons (.expr (.call 97 (.cons (.var 0) (.cons (.var 1) (.cons (.var 2) .nil))))) (.cons (.ret (.bi .max (.cons (.call 96 (.cons (.var 0) (.cons (.var 1) (.cons (.var 2) .nil)))) .nil))) .nil))⟩
def f99_worst_split : FD := ⟨"worst_split", ["curve", "total", "parts"], ["curve", "total", "parts"], none, false,
  (.cons (.expr (.call 97 (.cons (.var 0) (.cons (.var 1) (.cons (.var 2) .nil))))) (.cons (.ret (.bi .min (.cons (.call 96 (.cons (.var 0) (.cons (.var 1) (.cons (.var 2) .nil)))) .nil))) .nil))⟩
def f4_law_source : FD := ⟨"_law_source", ["cell", "turn"], ["cell", "turn"], none, true,
  (.cons (.ite (.cmp .ge (.var 0) (.bin .pow (.lit (.int 10)) (.lit (.int 18)))) (.cons (.ret (.lst (.cons (.bin .sub (.var 0) (.bin .pow (.lit (.int 10)) (.lit (.int 18)))) (.cons (.bin .mod (.bi .int (.cons (.var 0) .nil)) (.lit (.int 2147483579))) (.cons (.var 1) .nil))))) .nil) .nil) (.cons (.ret (.lst (.cons (.lit (.int 0)) (.cons (.bin .mod (.bi .int (.cons (.var 0) .nil)) (.lit (.int 2147483579))) (.cons (.var 1) .nil))))) .nil))⟩
def f5_law_draw : FD := ⟨"_law_draw", ["source", "size"], ["source", "size", "drawn", "number"], some 0, false,
  (.cons (.ite (.cmp .gt (.ix (.var 0) (.lit (.int 0))) (.lit (.int 1))) (.cons (.asg (.one 2) (.bin .mod (.bi .int (.cons (.ix (.var 0) (.lit (.int 0))) .nil)) (.var 1))) (.cons (.set 0 (.lit (.int 0)) (.bin .div (.ix (.var 0) (.lit (.int 0))) (.var 1))) (.cons (.ret (.var 2)) .nil))) .nil) (.cons (.set 0 (.lit (.int 2)) (.bin .add (.ix (.var 0) (.lit (.int 2))) (.lit (.int 1)))) (.cons (.asg (.one 3) (.bin .mod (.bi .int (.cons (.bin .pow (.bin .add (.ix (.var 0) (.lit (.int 1))) (.bin .mul (.lit (.int 15485867)) (.ix (.var 0) (.lit (.int 2))))) (.lit (.int 5))) .nil)) (.lit (.int 2147483647)))) (.cons (.asg (.one 2) (.bin .div (.bin .mod (.bi .int (.cons (.bin .pow (.bin .add (.var 3) (.bin .mul (.lit (.int 7919)) (.ix (.var 0) (.lit (.int 2))))) (.lit (.int 3))) .nil)) (.lit (.int 2147483629))) (.lit (.int 32)))) (.cons (.ret (.bin .mod (.bi .int (.cons (.var 2) .nil)) (.var 1))) .nil)))))⟩
def f6_law_choice : FD := ⟨"_law_choice", ["source", "items"], ["source", "items"], some 0, false,
  (.cons (.ret (.ix (.var 1) (.call 5 (.cons (.var 0) (.cons (.bi .len (.cons (.var 1) .nil)) .nil))))) .nil)⟩
def f7_law_equal_c1 : IE := .lc (.one 2) [2] (.call 7 (.cons (.ix (.var 0) (.var 2)) (.cons (.ix (.var 1) (.var 2)) .nil))) (.rng (.cons (.bi .len (.cons (.var 1) .nil)) .nil)) .nil
theorem d_f7_law_equal_c1 (P : PgI) (cf : Nat → List D → FRes) : den P cf f7_law_equal_c1 = Den.of (lcE P cf f7_law_equal_c1) := rfl
def f7_law_equal : FD := ⟨"_law_equal", ["found", "meant"], ["found", "meant", "k"], none, false,
  (.cons (.ite (.or_ (.cons (.isi1 .bool (.var 1)) (.cons (.isi1 .bool (.var 0)) .nil))) (.cons (.ret (.and_ (.cons (.isi1 .bool (.var 1)) (.cons (.isi1 .bool (.var 0)) (.cons (.cmp .eq (.var 1) (.var 0)) .nil))))) .nil) .nil) (.cons (.ite (.or_ (.cons (.cmp .is_ (.var 1) (.lit .none)) (.cons (.cmp .is_ (.var 0) (.lit .none)) .nil))) (.cons (.ret (.and_ (.cons (.cmp .is_ (.var 1) (.lit .none)) (.cons (.cmp .is_ (.var 0) (.lit .none)) .nil)))) .nil) .nil) (.cons (.ite (.isi2 .list .tuple (.var 1)) (.cons (.ite (.or_ (.cons (.not_ (.isi2 .list .tuple (.var 0))) (.cons (.cmp .ne (.bi .len (.cons (.var 0) .nil)) (.bi .len (.cons (.var 1) .nil))) .nil))) (.cons (.ret (.lit (.bool false))) .nil) .nil) (.cons (.ite (.cmp .ne (.isi1 .list (.var 1)) (.isi1 .list (.var 0))) (.cons (.ret (.lit (.bool false))) .nil) .nil) (.cons (.ret (.bi .all (.cons f7_law_equal_c1 .nil))) .nil))) .nil) (.cons (.ite (.isi1 .str (.var 1)) (.cons (.ret (.and_ (.cons (.isi1 .str (.var 0)) (.cons (.cmp .eq (.var 0) (.var 1)) .nil)))) .nil) .nil) (.cons (.ret (.and_ (.cons (.isi1 .int (.var 0)) (.cons (.cmp .eq (.var 0) (.var 1)) .nil)))) .nil)))))⟩
def f8_law_at_c1 : IE := .lc (.one 5) [5] (.var 5) (.var 0) (.cmp .le (.ix (.var 5) (.lit (.int 0))) (.var 1))
theorem d_f8_law_at_c1 (P : PgI) (cf : Nat → List D → FRes) : den P cf f8_law_at_c1 = Den.of (lcE P cf f8_law_at_c1) := rfl
def f8_law_at : FD := ⟨"_law_at", ["curve", "x"], ["curve", "x", "start", "first", "slope", "piece"], none, false,
  (.cons (.asg (.many [2, 3, 4]) (.ix f8_law_at_c1 (.neg (.lit (.int 1))))) (.cons (.ret (.bin .add (.var 3) (.bin .mul (.var 4) (.bin .sub (.var 1) (.var 2))))) .nil))⟩
def f28_law_is_whole : FD := ⟨"_law_is_whole", ["value"], ["value"], none, false,
  (.cons (.ret (.and_ (.cons (.isi1 .int (.var 0)) (.cons (.not_ (.isi1 .bool (.var 0))) .nil)))) .nil)⟩
def f100_law_small_l1 : IS := .for_ (.one 3) (.rng (.cons (.bin .add (.lit (.int 1)) (.call 5 (.cons (.var 0) (.cons (.lit (.int 5)) .nil)))) .nil)) (.cons (.app 1 (.tup (.cons (.var 2) (.cons (.bin .sub (.call 5 (.cons (.var 0) (.cons (.lit (.int 61)) .nil))) (.lit (.int 30))) (.cons (.call 6 (.cons (.var 0) (.cons (.lst (.cons (.lit (.int 0)) (.cons (.lit (.int 1)) (.cons (.lit (.int 2)) (.cons (.lit (.int 5)) (.cons (.bin .sub (.lit (.int 0)) (.lit (.int 1))) (.cons (.bin .sub (.lit (.int 0)) (.lit (.int 4))) (.cons (.lit (.int 9)) .nil)))))))) .nil))) .nil))))) (.cons (.asg (.one 2) (.bin .add (.bin .add (.var 2) (.lit (.int 1))) (.call 5 (.cons (.var 0) (.cons (.lit (.int 5)) .nil))))) .nil)) [3]
def f100_law_small : FD := ⟨"_law_small", ["source"], ["source", "found", "start", "k"], some 0, false,
  (.cons (.par2 true false 1 2 (.lst .nil) (.lit (.int 0))) (.cons f100_law_small_l1 (.cons (.ret (.bi .tuple (.cons (.var 1) .nil))) .nil)))⟩
def f101_law_sums_c1 : IE := .lc (.one 10) [10] (.bin .add (.ix (.ix (.var 4) (.var 10)) (.lit (.int 1))) (.ix (.var 3) (.bin .sub (.var 7) (.var 10)))) (.rng (.cons (.bin .add (.var 7) (.lit (.int 1))) .nil)) .nil
theorem d_f101_law_sums_c1 (P : PgI) (cf : Nat → List D → FRes) : den P cf f101_law_sums_c1 = Den.of (lcE P cf f101_law_sums_c1) := rfl
def f101_law_sums_c2 : IE := .lc (.one 10) [10] (.bin .add (.ix (.ix (.var 4) (.var 10)) (.lit (.int 0))) (.ix (.var 3) (.bin .sub (.var 7) (.var 10)))) (.rng (.cons (.bin .add (.var 7) (.lit (.int 1))) .nil)) .nil
theorem d_f101_law_sums_c2 (P : PgI) (cf : Nat → List D → FRes) : den P cf f101_law_sums_c2 = Den.of (lcE P cf f101_law_sums_c2) := rfl
def f101_law_sums_l1 : IS := .for_ (.one 7) (.rng (.cons (.bin .add (.var 1) (.lit (.int 1))) .nil)) (.cons (.asg (.one 8) f101_law_sums_c2) (.cons (.asg (.one 9) f101_law_sums_c1) (.cons (.app 6 (.tup (.cons (.bi .max (.cons (.var 8) .nil)) (.cons (.bi .min (.cons (.var 9) .nil)) .nil)))) .nil))) [7, 8, 9]
def f101_law_sums_l2 : IS := .for_ (.one 5) (.rng (.cons (.bin .sub (.var 2) (.lit (.int 1))) .nil)) (.cons (.asgO 6 (.lst .nil)) (.cons f101_law_sums_l1 (.cons (.asg (.one 4) (.frz 6)) .nil))) [5, 6, 7, 8, 9]
def f101_law_sums_c3 : IE := .lc (.one 11) [11] (.tup (.cons (.var 11) (.cons (.var 11) .nil))) (.var 3) .nil
theorem d_f101_law_sums_c3 (P : PgI) (cf : Nat → List D → FRes) : den P cf f101_law_sums_c3 = Den.of (lcE P cf f101_law_sums_c3) := rfl
def f101_law_sums_c4 : IE := .lc (.one 10) [10] (.call 8 (.cons (.var 0) (.cons (.var 10) .nil))) (.rng (.cons (.bin .add (.var 1) (.lit (.int 1))) .nil)) .nil
theorem d_f101_law_sums_c4 (P : PgI) (cf : Nat → List D → FRes) : den P cf f101_law_sums_c4 = Den.of (lcE P cf f101_law_sums_c4) := rfl
def f101_law_sums : FD := ⟨"_law_sums", ["curve", "total", "parts"], ["curve", "total", "parts", "values", "grid", "turn", "longer", "whole", "high", "low", "x", "value"], none, false,
  (.cons (.asg (.one 3) f101_law_sums_c4) (.cons (.asg (.one 4) f101_law_sums_c3) (.cons f101_law_sums_l2 (.cons (.ret (.var 4)) .nil))))⟩
def f102_law_shows_c1 : IE := .lc (.one 6) [6] (.call 8 (.cons (.var 0) (.cons (.var 6) .nil))) (.var 5) .nil
theorem d_f102_law_shows_c1 (P : PgI) (cf : Nat → List D → FRes) : den P cf f102_law_shows_c1 = Den.of (lcE P cf f102_law_shows_c1) := rfl
def f102_law_shows_c2 : IE := .lc (.one 6) [6] (.var 6) (.var 5) (.or_ (.cons (.not_ (.call 28 (.cons (.var 6) .nil))) (.cons (.cmp .lt (.var 6) (.lit (.int 0))) .nil)))
theorem d_f102_law_shows_c2 (P : PgI) (cf : Nat → List D → FRes) : den P cf f102_law_shows_c2 = Den.of (lcE P cf f102_law_shows_c2) := rfl
def f102_law_shows : FD := ⟨"_law_shows", ["curve", "total", "parts", "found", "meant"], ["curve", "total", "parts", "found", "meant", "row", "x"], none, false,
  (.cons (.ite (.or_ (.cons (.not_ (.isi1 .tuple (.var 3))) (.cons (.cmp .ne (.bi .len (.cons (.var 3) .nil)) (.lit (.int 2))) (.cons (.not_ (.call 7 (.cons (.ix (.var 3) (.lit (.int 0))) (.cons (.var 4) .nil)))) .nil)))) (.cons (.ret (.lit (.bool false))) .nil) .nil) (.cons (.asg (.one 5) (.ix (.var 3) (.lit (.int 1)))) (.cons (.ite (.or_ (.cons (.not_ (.isi1 .tuple (.var 5))) (.cons (.cmp .ne (.bi .len (.cons (.var 5) .nil)) (.var 2)) (.cons (.cmp .ne f102_law_shows_c2 (.lst .nil)) .nil)))) (.cons (.ret (.lit (.bool false))) .nil) .nil) (.cons (.ret (.and_ (.cons (.cmp .eq (.bi .sum (.cons (.var 5) .nil)) (.var 1)) (.cons (.cmp .eq (.bi .sum (.cons f102_law_shows_c1 .nil)) (.var 4)) .nil)))) .nil))))⟩
def f103_law_l1 : IS := .for_ (.one 1) (.slc (.bin .add (.lst (.cons (.lit (.int 0)) .nil)) (.var 0)) .nil (.lit (.int 9))) (.cons (.asgO 2 (.call 4 (.cons (.var 1) (.cons (.lit (.int 11)) .nil)))) (.cons (.par3 false false false 3 4 5 (.call 100 (.cons (.var 2) .nil)) (.call 5 (.cons (.var 2) (.cons (.lit (.int 31)) .nil))) (.bin .add (.lit (.int 1)) (.call 5 (.cons (.var 2) (.cons (.lit (.int 4)) .nil))))) (.cons (.asg (.many [6, 7]) (.ix (.call 101 (.cons (.var 3) (.cons (.var 4) (.cons (.var 5) .nil)))) (.var 4))) (.cons (.ite (.not_ (.call 102 (.cons (.var 3) (.cons (.var 4) (.cons (.var 5) (.cons (.call 98 (.cons (.var 3) (.cons (.var 4) (.cons (.var 5) .nil)))) (.cons (.var 6) .nil))))))) (.cons (.ret (.lit (.bool false))) .nil) .nil) (.cons (.ite (.not_ (.call 102 (.cons (.var 3) (.cons (.var 4) (.cons (.var 5) (.cons (.call 99 (.cons (.var 3) (.cons (.var 4) (.cons (.var 5) .nil)))) (.cons (.var 7) .nil))))))) (.cons (.ret (.lit (.bool false))) .nil) .nil) .nil))))) [1, 2, 3, 4, 5, 6, 7]
def f103_law : FD := ⟨"law", ["script"], ["script", "cell", "source", "curve", "total", "parts", "high", "low"], none, false,
  (.cons f103_law_l1 (.cons (.ret (.lit (.bool true))) .nil))⟩
end Tp
namespace Tp
open PySem
class C1 (H : PG) : Prop where h_1 : H.fns.lookup 1 = some f1_is_integer
theorem I_1 {H : PG} [C1 H] : H.I.fn 1 = some ⟨f1_is_integer.name, f1_is_integer.io, f1_is_integer.own⟩ := I_fn' C1.h_1
class C2 (H : PG) : Prop extends C1 H where h_2 : H.fns.lookup 2 = some f2_is_short
theorem I_2 {H : PG} [C2 H] : H.I.fn 2 = some ⟨f2_is_short.name, f2_is_short.io, f2_is_short.own⟩ := I_fn' C2.h_2
class K_GREATEST (H : PG) : Prop where h_GREATEST : H.gl.lookup ("GREATEST" : Str) = some (.int 10000000000000000000000000000000000000000)
class C15 (H : PG) : Prop extends C1 H, K_GREATEST H where h_15 : H.fns.lookup 15 = some f15_is_natural
theorem I_15 {H : PG} [C15 H] : H.I.fn 15 = some ⟨f15_is_natural.name, f15_is_natural.io, f15_is_natural.own⟩ := I_fn' C15.h_15
class C16 (H : PG) : Prop extends C15 H where h_16 : H.fns.lookup 16 = some f16_check_natural
theorem I_16 {H : PG} [C16 H] : H.I.fn 16 = some ⟨f16_check_natural.name, f16_check_natural.io, f16_check_natural.own⟩ := I_fn' C16.h_16
class K_MOST_PIECES (H : PG) : Prop where h_MOST_PIECES : H.gl.lookup ("MOST_PIECES" : Str) = some (.int 24)
class C3 (H : PG) : Prop extends C2 H, K_GREATEST H, K_MOST_PIECES H where h_3 : H.fns.lookup 3 = some f3_is_curve
theorem I_3 {H : PG} [C3 H] : H.I.fn 3 = some ⟨f3_is_curve.name, f3_is_curve.io, f3_is_curve.own⟩ := I_fn' C3.h_3
class C17 (H : PG) : Prop extends C3 H where h_17 : H.fns.lookup 17 = some f17_check_curve
theorem I_17 {H : PG} [C17 H] : H.I.fn 17 = some ⟨f17_check_curve.name, f17_check_curve.io, f17_check_curve.own⟩ := I_fn' C17.h_17
class C18 (H : PG) : Prop where h_18 : H.fns.lookup 18 = some f18_piece_at
theorem I_18 {H : PG} [C18 H] : H.I.fn 18 = some ⟨f18_piece_at.name, f18_piece_at.io, f18_piece_at.own⟩ := I_fn' C18.h_18
class C19 (H : PG) : Prop extends C18 H where h_19 : H.fns.lookup 19 = some f19_worth
theorem I_19 {H : PG} [C19 H] : H.I.fn 19 = some ⟨f19_worth.name, f19_worth.io, f19_worth.own⟩ := I_fn' C19.h_19
class C75 (H : PG) : Prop where h_75 : H.fns.lookup 75 = some f75_corners
theorem I_75 {H : PG} [C75 H] : H.I.fn 75 = some ⟨f75_corners.name, f75_corners.io, f75_corners.own⟩ := I_fn' C75.h_75
class K_MOST_PARTS (H : PG) : Prop where h_MOST_PARTS : H.gl.lookup ("MOST_PARTS" : Str) = some (.int 4)
class C94 (H : PG) : Prop extends C1 H, K_MOST_PARTS H where h_94 : H.fns.lookup 94 = some f94_check_parts
theorem I_94 {H : PG} [C94 H] : H.I.fn 94 = some ⟨f94_check_parts.name, f94_check_parts.io, f94_check_parts.own⟩ := I_fn' C94.h_94
class C95 (H : PG) : Prop where h_95 : H.fns.lookup 95 = some f95_picked
theorem I_95 {H : PG} [C95 H] : H.I.fn 95 = some ⟨f95_picked.name, f95_picked.io, f95_picked.own⟩ := I_fn' C95.h_95
class C96 (H : PG) : Prop extends C19 H, C75 H, C95 H where h_96 : H.fns.lookup 96 = some f96_all_splits
theorem I_96 {H : PG} [C96 H] : H.I.fn 96 = some ⟨f96_all_splits.name, f96_all_splits.io, f96_all_splits.own⟩ := I_fn' C96.h_96
class C97 (H : PG) : Prop extends C16 H, C17 H, C94 H where h_97 : H.fns.lookup 97 = some f97_check_split
theorem I_97 {H : PG} [C97 H] : H.I.fn 97 = some ⟨f97_check_split.name, f97_check_split.io, f97_check_split.own⟩ := I_fn' C97.h_97
class C98 (H : PG) : Prop extends C96 H, C97 H where h_98 : H.fns.lookup 98 = some f98_best_split
theorem I_98 {H : PG} [C98 H] : H.I.fn 98 = some ⟨f98_best_split.name, f98_best_split.io, f98_best_split.own⟩ := I_fn' C98.h_98
class C99 (H : PG) : Prop extends C96 H, C97 H where h_99 : H.fns.lookup 99 = some f99_worst_split
theorem I_99 {H : PG} [C99 H] : H.I.fn 99 = some ⟨f99_worst_split.name, f99_worst_split.io, f99_worst_split.own⟩ := I_fn' C99.h_99
class C4 (H : PG) : Prop where h_4 : H.fns.lookup 4 = some f4_law_source
theorem I_4 {H : PG} [C4 H] : H.I.fn 4 = some ⟨f4_law_source.name, f4_law_source.io, f4_law_source.own⟩ := I_fn' C4.h_4
class C5 (H : PG) : Prop where h_5 : H.fns.lookup 5 = some f5_law_draw
theorem I_5 {H : PG} [C5 H] : H.I.fn 5 = some ⟨f5_law_draw.name, f5_law_draw.io, f5_law_draw.own⟩ := I_fn' C5.h_5
class C6 (H : PG) : Prop extends C5 H where h_6 : H.fns.lookup 6 = some f6_law_choice
theorem I_6 {H : PG} [C6 H] : H.I.fn 6 = some ⟨f6_law_choice.name, f6_law_choice.io, f6_law_choice.own⟩ := I_fn' C6.h_6
class C7 (H : PG) : Prop where h_7 : H.fns.lookup 7 = some f7_law_equal
theorem I_7 {H : PG} [C7 H] : H.I.fn 7 = some ⟨f7_law_equal.name, f7_law_equal.io, f7_law_equal.own⟩ := I_fn' C7.h_7
class C8 (H : PG) : Prop where h_8 : H.fns.lookup 8 = some f8_law_at
theorem I_8 {H : PG} [C8 H] : H.I.fn 8 = some ⟨f8_law_at.name, f8_law_at.io, f8_law_at.own⟩ := I_fn' C8.h_8
class C28 (H : PG) : Prop where h_28 : H.fns.lookup 28 = some f28_law_is_whole
theorem I_28 {H : PG} [C28 H] : H.I.fn 28 = some ⟨f28_law_is_whole.name, f28_law_is_whole.io, f28_law_is_whole.own⟩ := I_fn' C28.h_28
class C100 (H : PG) : Prop extends C5 H, C6 H where h_100 : H.fns.lookup 100 = some f100_law_small
theorem I_100 {H : PG} [C100 H] : H.I.fn 100 = some ⟨f100_law_small.name, f100_law_small.io, f100_law_small.own⟩ := I_fn' C100.h_100
class C101 (H : PG) : Prop extends C8 H where h_101 : H.fns.lookup 101 = some f101_law_sums
theorem I_101 {H : PG} [C101 H] : H.I.fn 101 = some ⟨f101_law_sums.name, f101_law_sums.io, f101_law_sums.own⟩ := I_fn' C101.h_101
class C102 (H : PG) : Prop extends C7 H, C8 H, C28 H where h_102 : H.fns.lookup 102 = some f102_law_shows
theorem I_102 {H : PG} [C102 H] : H.I.fn 102 = some ⟨f102_law_shows.name, f102_law_shows.io, f102_law_shows.own⟩ := I_fn' C102.h_102
def t1_is_integer (v_value : Int) : R Bool :=
  .ok true
def t4_law_source (v_cell : Int) (v_turn : Int) : R Sc :=
  if (decide (1000000000000000000 ≤ v_cell)) = true then (.ok ((v_cell - 1000000000000000000), (Int.fmod v_cell 2147483579), v_turn)) else (.ok (0, (Int.fmod v_cell 2147483579), v_turn))
def t5_law_draw (v_source : Sc) (v_size : Int) : R (Int × Sc) :=
  if (decide (1 < v_source.1)) = true then (R.guard (mdOk v_size) <| R.guard (dvOk v_size) <| .ok ((Int.fmod v_source.1 v_size), ((Int.fdiv v_source.1 v_size), v_source.2.1, v_source.2.2))) else (R.guard (smm 15485867 (v_source.1, v_source.2.1, (v_source.2.2 + 1)).2.2) <| R.guard (pwOk ((v_source.1, v_source.2.1, (v_source.2.2 + 1)).2.1 + (15485867 * (v_source.1, v_source.2.1, (v_source.2.2 + 1)).2.2)) 5) <| R.guard (smm 7919 (v_source.1, v_source.2.1, (v_source.2.2 + 1)).2.2) <| R.guard (pwOk ((Int.fmod (((v_source.1, v_source.2.1, (v_source.2.2 + 1)).2.1 + (15485867 * (v_source.1, v_source.2.1, (v_source.2.2 + 1)).2.2)) ^ Int.toNat 5) 2147483647) + (7919 * (v_source.1, v_source.2.1, (v_source.2.2 + 1)).2.2)) 3) <| R.guard (mdOk v_size) <| .ok ((Int.fmod (Int.fdiv (Int.fmod (((Int.fmod (((v_source.1, v_source.2.1, (v_source.2.2 + 1)).2.1 + (15485867 * (v_source.1, v_source.2.1, (v_source.2.2 + 1)).2.2)) ^ Int.toNat 5) 2147483647) + (7919 * (v_source.1, v_source.2.1, (v_source.2.2 + 1)).2.2)) ^ Int.toNat 3) 2147483629) 32) v_size), (v_source.1, v_source.2.1, (v_source.2.2 + 1))))
def t8_law_at (v_curve : (List (Int × Int × Int))) (v_x : Int) : R Int :=
  R.guard (szL v_curve) <| R.bind (filR (fun (a1 : (Int × Int × Int)) => if (decide (a1.1 ≤ v_x)) = true then (.ok (some a1)) else .ok none) v_curve) fun (y3 : (List (Int × Int × Int))) => R.bind (R.of (ixR y3 (-1))) fun (y4 : (Int × Int × Int)) => R.guard (smm y4.2.2 (v_x - y4.1)) <| .ok (y4.2.1 + (y4.2.2 * (v_x - y4.1)))
def t8b_law_at (v_curve : (List (Int × Int × Int))) (v_x : Int) : R Int :=
  R.guard (szL v_curve) <| R.bind (filR (fun (a1 : (Int × Int × Int)) => if (decide (a1.1 ≤ v_x)) = true then (.ok (some a1)) else .ok none) v_curve) fun (y3 : (List (Int × Int × Int))) => R.bind (R.of (ixR y3 (-1))) fun (y4 : (Int × Int × Int)) => R.guard (smm y4.2.2 (v_x - y4.1)) <| .ok (y4.2.1 + (y4.2.2 * (v_x - y4.1)))
def t18_piece_at (v_curve : (List (Int × Int × Int))) (v_x : Int) : R (Int × Int × Int) :=
  R.bind (R.of (ixR v_curve 0)) fun (y1 : (Int × Int × Int)) => R.bind (forT (fun (a4 : (Int × Int × Int)) (u3 : (Int × Int × Int)) => R.bind (if (decide (a4.1 ≤ v_x)) = true then (.ok a4) else (.ok u3)) fun (u5 : (Int × Int × Int)) => .ok u5) v_curve y1) fun (u3 : (Int × Int × Int)) => .ok u3
def t28_law_is_whole (v_value : Int) : R Bool :=
  .ok true
def t31_stretches (v_one : (List (Int × Int × Int))) (v_other : (List (Int × Int × Int))) : R (List (Int × (Option Int))) :=
  R.guard (szA (α := (Int × Int × Int)) v_one v_other) <| R.guard (fewOk (v_one ++ v_other)) <| R.bind (mapR (fun (a1 : (Int × Int × Int)) => .ok a1.1) (v_one ++ v_other)) fun (y2 : List Int) => R.guard (srOk y2) <| R.guard (szA (α := (Option Int)) (List.map some (List.drop 1 (sortI y2))) [none]) <| .ok (List.zip (sortI y2) ((List.map some (List.drop 1 (sortI y2))) ++ [none]))
def t32_has_more (v_start : Int) (v_end : (Option Int)) (v_many : Int) : R Bool :=
  R.bind (if (Option.isNone v_end) = true then (.ok true) else (R.bind (R.of v_end) fun (w3 : Int) => .ok (decide ((v_start + v_many) < w3)))) fun (y1 : Bool) => .ok y1
def t75_corners (v_curve : (List (Int × Int × Int))) : R (List Int) :=
  R.guard (szL v_curve) <| R.bind (mapR (fun (a1 : (Int × Int × Int)) => .ok a1.1) v_curve) fun (y2 : (List Int)) => R.guard (szL y2) <| R.bind (filR (fun (a3 : Int) => if (decide (0 < a3)) = true then (.ok (some (a3 - 1))) else .ok none) y2) fun (y5 : (List Int)) => R.guard (szA (α := Int) y2 y5) <| R.guard (srOk (y2 ++ y5)) <| .ok (sortI (y2 ++ y5))
def t6_choice {α : Type} (v_source : Sc) (v_items : (List α)) : R (α × Sc) :=
  R.draw (t5_law_draw v_source ((List.length v_items : Nat) : Int)) fun (y1 : Int × Sc) => R.bind (R.of (ixR v_items y1.1)) fun (y2 : α) => .ok (y2, y1.2)
def t2_is_short (v_value : Int) (v_digits : Int) : R Bool :=
  R.bind (t1_is_integer v_value) fun (y1 : Bool) => .ok (y1 && (decide ((if v_value < 0 then -v_value else v_value) < v_digits)))
def t15_is_natural (v_value : Int) : R Bool :=
  R.bind (t1_is_integer v_value) fun (y1 : Bool) => .ok (y1 && ((decide (0 ≤ v_value)) && (decide (v_value ≤ 10000000000000000000000000000000000000000))))
def t19_worth (v_curve : (List (Int × Int × Int))) (v_x : Int) : R Int :=
  R.bind (t18_piece_at v_curve v_x) fun (y1 : (Int × Int × Int)) => R.guard (smm y1.2.2 (v_x - y1.1)) <| .ok (y1.2.1 + (y1.2.2 * (v_x - y1.1)))
def t94_check_parts (v_parts : Int) : R Unit :=
  R.bind (t1_is_integer v_parts) fun (y1 : Bool) => if ((!y1) || (!((decide (1 ≤ v_parts)) && (decide (v_parts ≤ 4))))) = true then (.bad) else (.ok ())
def t101_law_sums (v_curve : (List (Int × Int × Int))) (v_total : Int) (v_parts : Int) : R (List (Int × Int)) :=
  R.guard (rgOk 0 (v_total + 1)) <| R.guard (szL (rngI 0 (v_total + 1))) <| R.bind (mapR (fun (a2 : Int) => R.bind (t8b_law_at v_curve a2) fun (y3 : Int) => .ok y3) (rngI 0 (v_total + 1))) fun (y4 : (List Int)) => R.guard (szL y4) <| R.bind (mapR (fun (a5 : Int) => .ok (a5, a5)) y4) fun (y6 : (List (Int × Int))) => R.guard (rgOk 0 (v_parts - 1)) <| R.bind (forT (fun (a9 : Int) (u8 : (List (Int × Int))) => R.guard (rgOk 0 (v_total + 1)) <| R.bind (forT (fun (a12 : Int) (u11 : (List (Int × Int))) => R.guard (rgOk 0 (a12 + 1)) <| R.guard (szL (rngI 0 (a12 + 1))) <| R.bind (mapR (fun (a14 : Int) => R.bind (R.of (ixR u8 a14)) fun (y15 : (Int × Int)) => R.bind (R.of (ixR y4 (a12 - a14))) fun (y17 : Int) => .ok (y15.1 + y17)) (rngI 0 (a12 + 1))) fun (y19 : (List Int)) => R.guard (rgOk 0 (a12 + 1)) <| R.guard (szL (rngI 0 (a12 + 1))) <| R.bind (mapR (fun (a21 : Int) => R.bind (R.of (ixR u8 a21)) fun (y22 : (Int × Int)) => R.bind (R.of (ixR y4 (a12 - a21))) fun (y24 : Int) => .ok (y22.2 + y24)) (rngI 0 (a12 + 1))) fun (y26 : (List Int)) => R.bind (R.of (maxO y19)) fun (y27 : Int) => R.bind (R.of (minO y26)) fun (y29 : Int) => R.guard (szP (α := (Int × Int)) u11) <| .ok (u11 ++ [(y27, y29)])) (rngI 0 (v_total + 1)) []) fun (u11 : (List (Int × Int))) => .ok u11) (rngI 0 (v_parts - 1)) y6) fun (u8 : (List (Int × Int))) => .ok u8
def t3_is_curve (v_value : (List (Int × Int × Int))) : R Bool :=
  if (!((decide (1 ≤ ((List.length v_value : Nat) : Int))) && (decide (((List.length v_value : Nat) : Int) ≤ 24)))) = true then (.ok false) else (R.ctl (forC (ρ := Bool) (fun (a4 : (Int × Int × Int)) (u3 : Int) => if (decide (3 ≠ 3)) = true then (.ok (.rt false)) else (R.guard (szL ([a4.1, a4.2.1, a4.2.2] : (List Int))) <| R.bind (mapR (fun (a6 : Int) => R.bind (t2_is_short a6 10000000000000000000000000000000000000000) fun (y7 : Bool) => .ok y7) ([a4.1, a4.2.1, a4.2.2] : (List Int))) fun (y8 : (List Bool)) => if ((!(List.all y8 id)) || (decide (a4.1 ≤ u3))) = true then (.ok (.rt false)) else (.ok (.nx a4.1)))) v_value (-1)) (fun (u3 : Int) => R.bind (R.of (ixR v_value 0)) fun (y12 : (Int × Int × Int)) => .ok (decide (y12.1 = 0))) (fun x => x))
def t9_law_slope (v_source : Sc) : R (Int × Sc) :=
  R.draw (t5_law_draw v_source 1000000) fun (y1 : Int × Sc) => R.draw (t6_choice (α := Int) y1.2 ([0, 0, 1, 2, 5, (0 - 1), (0 - 3), 10, 100, (0 - 20), (y1.1 - 100000)] : (List Int))) fun (y2 : Int × Sc) => .ok (y2.1, y2.2)
def t16_check_natural (v_value : Int) : R Unit :=
  R.bind (t15_is_natural v_value) fun (y1 : Bool) => if (!y1) = true then (.bad) else (.ok ())
def t23_difference (v_curve : (List (Int × Int × Int))) (v_x : Int) : R Int :=
  R.bind (t19_worth v_curve v_x) fun (y1 : Int) => R.bind (t19_worth v_curve (v_x - 1)) fun (y2 : Int) => .ok (y1 - y2)
def t33_apart (v_one : (List (Int × Int × Int))) (v_other : (List (Int × Int × Int))) (v_x : Int) : R (Int × Int) :=
  R.bind (t19_worth v_one v_x) fun (y1 : Int) => R.bind (t19_worth v_other v_x) fun (y2 : Int) => R.bind (t18_piece_at v_one v_x) fun (y3 : (Int × Int × Int)) => R.bind (t18_piece_at v_other v_x) fun (y4 : (Int × Int × Int)) => .ok ((y1 - y2), (y3.2.2 - y4.2.2))
def t100_law_small (v_source : Sc) : R ((List (Int × Int × Int)) × Sc) :=
  R.draw (t5_law_draw v_source 5) fun (y1 : Int × Sc) => R.guard (rgOk 0 (1 + y1.1)) <| R.bind (forT (fun (a4 : Int) (u3 : (Sc × (List (Int × Int × Int)) × Int)) => R.draw (t5_law_draw u3.1 61) fun (y5 : Int × Sc) => R.draw (t6_choice (α := Int) y5.2 ([0, 1, 2, 5, (0 - 1), (0 - 4), 9] : (List Int))) fun (y6 : Int × Sc) => R.guard (szP (α := (Int × Int × Int)) u3.2.1) <| R.draw (t5_law_draw y6.2 5) fun (y8 : Int × Sc) => .ok (y8.2, (u3.2.1 ++ [(u3.2.2, (y5.1 - 30), y6.1)]), ((u3.2.2 + 1) + y8.1))) (rngI 0 (1 + y1.1)) (y1.2, [], 0)) fun (u3 : (Sc × (List (Int × Int × Int)) × Int)) => .ok (u3.2.1, u3.1)
def t10_law_curve (v_source : Sc) (v_many : Int) : R ((List (Int × Int × Int)) × Sc) :=
  R.draw (t6_choice (α := Int) v_source ([1, 3, 20, 1000000000] : (List Int))) fun (y1 : Int × Sc) => R.guard (rgOk 0 v_many) <| R.bind (forT (fun (a4 : Int) (u3 : (Sc × (List (Int × Int × Int)) × Int)) => R.draw (t9_law_slope u3.1) fun (y5 : Int × Sc) => R.draw (t5_law_draw y5.2 41) fun (y6 : Int × Sc) => R.bind (R.bind (if (decide (0 < a4)) = true then (R.draw (t5_law_draw y6.2 2) fun (y10 : Int × Sc) => .ok ((decide (y10.1 = 0)), y10.2)) else (.ok (false, y6.2))) fun (y8 : (Bool × Sc)) => if y8.1 = true then (R.draw (t8_law_at u3.2.1 u3.2.2) fun (y12 : Int) => R.draw (t6_choice (α := Int) y8.2 ([0, 0, 1, (0 - 7)] : (List Int))) fun (y13 : Int × Sc) => R.bind (R.of (ixR u3.2.1 (-1))) fun (y14 : (Int × Int × Int)) => R.draw (t6_choice (α := Int) y13.2 ([y14.2.2, y5.1] : (List Int))) fun (y16 : Int × Sc) => .ok ((y12 + y13.1), y16.1, y16.2)) else (.ok ((y6.1 - 20), y5.1, y8.2))) fun (u7 : (Int × Int × Sc)) => R.guard (szP (α := (Int × Int × Int)) u3.2.1) <| R.draw (t5_law_draw u7.2.2 y1.1) fun (y18 : Int × Sc) => .ok (y18.2, (u3.2.1 ++ [(u3.2.2, u7.1, u7.2.1)]), ((u3.2.2 + 1) + y18.1))) (rngI 0 v_many) (y1.2, [], 0)) fun (u3 : (Sc × (List (Int × Int × Int)) × Int)) => .ok (u3.2.1, u3.1)
def t17_check_curve (v_value : (List (Int × Int × Int))) : R Unit :=
  R.bind (t3_is_curve v_value) fun (y1 : Bool) => if (!y1) = true then (.bad) else (.ok ())
def t24_run_start (v_curve : (List (Int × Int × Int))) (v_end : Int) (v_slope : Int) : R Int :=
  R.bind (whT (fun (u1 : Int) => R.bind (if (decide (0 < u1)) = true then (R.bind (t23_difference v_curve u1) fun (y4 : Int) => .ok (decide (y4 = v_slope))) else (.ok false)) fun (y2 : Bool) => .ok y2) (fun (u1 : Int) => R.bind (t18_piece_at v_curve (u1 - 1)) fun (y5 : (Int × Int × Int)) => .ok (if (decide (y5.2.2 = v_slope)) = true then y5.1 else (u1 - 1))) 100000 v_end) fun (u1 : Int) => .ok u1
def t11_law_any_curve (v_source : Sc) : R ((List (Int × Int × Int)) × Sc) :=
  R.draw (t5_law_draw v_source 5) fun (y1 : Int × Sc) => R.draw (t10_law_curve y1.2 (1 + y1.1)) fun (y2 : (List (Int × Int × Int)) × Sc) => .ok (y2.1, y2.2)
def t25_reduced (v_curve : (List (Int × Int × Int))) : R (List (Int × Int × Int)) :=
  R.bind (R.of (ixR v_curve (-1))) fun (y1 : (Int × Int × Int)) => R.bind (t24_run_start v_curve y1.1 y1.2.2) fun (y3 : Int) => R.ctl (whC (ρ := (List (Int × Int × Int))) (fun (u4 : (Int × (List (Int × Int × Int)))) => .ok true) (fun (u4 : (Int × (List (Int × Int × Int)))) => R.bind (t19_worth v_curve u4.1) fun (y5 : Int) => R.bind (t23_difference v_curve (u4.1 + 1)) fun (y6 : Int) => R.guard (szP (α := (Int × Int × Int)) u4.2) <| if (decide (u4.1 = 0)) = true then (.ok (.rt (List.reverse (u4.2 ++ [(u4.1, y5, y6)])))) else (R.bind (if (decide ((u4.1 - 1) = 0)) = true then (.ok 0) else (R.bind (t23_difference v_curve (u4.1 - 1)) fun (y11 : Int) => R.bind (t24_run_start v_curve (u4.1 - 1) y11) fun (y12 : Int) => .ok y12)) fun (y9 : Int) => .ok (.nx (y9, (u4.2 ++ [(u4.1, y5, y6)]))))) 100000 (y3, [])) (fun (u4 : (Int × (List (Int × Int × Int)))) => .bad) (fun x => x)
def t95_picked : Nat → (List Int) → Int → Int → R (List (List Int))
  | 0, _, _, _ => .bad
  | d + 1, v_items, v_total, v_many =>
  if (decide (v_many = 0)) = true then (.ok [[]]) else (R.guard (rgOk 0 ((List.length v_items : Nat) : Int)) <| R.bind (forT (fun (a4 : Int) (u3 : (List (List Int))) => R.bind (R.bind (R.of (ixR v_items a4)) fun (y6 : Int) => R.guard (smm y6 v_many) <| if (decide ((y6 * v_many) ≤ v_total)) = true then (R.bind (R.of (ixR v_items a4)) fun (y9 : Int) => R.bind (t95_picked d (cutG v_items (some a4) none) (v_total - y9) (v_many - 1)) fun (y11 : (List (List Int))) => R.guard (szL y11) <| R.bind (mapR (fun (a12 : (List Int)) => R.bind (R.of (ixR v_items a4)) fun (y13 : Int) => R.guard (szA (α := Int) [y13] a12) <| .ok ([y13] ++ a12)) y11) fun (y16 : (List (List Int))) => R.guard (szA (α := (List Int)) u3 y16) <| .ok (u3 ++ y16)) else (.ok u3)) fun (u5 : (List (List Int))) => .ok u5) (rngI 0 ((List.length v_items : Nat) : Int)) []) fun (u3 : (List (List Int))) => .ok u3)
def t97_check_split (v_curve : (List (Int × Int × Int))) (v_total : Int) (v_parts : Int) : R Unit :=
  R.bind (t17_check_curve v_curve) fun (y1 : Unit) => R.bind (t16_check_natural v_total) fun (y2 : Unit) => R.bind (t94_check_parts v_parts) fun (y3 : Unit) => .ok ()
def t26_finished (v_pieces : (List (Int × Int × Int))) : R (List (Int × Int × Int)) :=
  R.bind (t25_reduced v_pieces) fun (y1 : (List (Int × Int × Int))) => R.bind (t3_is_curve y1) fun (y2 : Bool) => if (!y2) = true then (.bad) else (.ok y1)
def t96_all_splits (v_curve : (List (Int × Int × Int))) (v_total : Int) (v_parts : Int) : R (List (Int × (List Int))) :=
  R.bind (t75_corners v_curve) fun (y1 : (List Int)) => R.bind (t95_picked 5 y1 v_total (v_parts - 1)) fun (y2 : (List (List Int))) => R.bind (forT (fun (a4 : (List Int)) (u3 : (List (Int × (List Int)))) => R.guard (szA (α := Int) a4 [(v_total - (List.sum a4))]) <| R.guard (szL (a4 ++ [(v_total - (List.sum a4))])) <| R.bind (mapR (fun (a5 : Int) => R.bind (t19_worth v_curve a5) fun (y6 : Int) => .ok y6) (a4 ++ [(v_total - (List.sum a4))])) fun (y7 : (List Int)) => R.guard (szP (α := (Int × (List Int))) u3) <| .ok (u3 ++ [((List.sum y7), (a4 ++ [(v_total - (List.sum a4))]))])) y2 []) fun (u3 : (List (Int × (List Int)))) => .ok u3
def t98_best_split (v_curve : (List (Int × Int × Int))) (v_total : Int) (v_parts : Int) : R (Int × (List Int)) :=
  R.bind (t97_check_split v_curve v_total v_parts) fun (y1 : Unit) => R.bind (t96_all_splits v_curve v_total v_parts) fun (y2 : (List (Int × (List Int)))) => R.bind (R.of (mxB (lt2 ltI (ltU ltI)) y2)) fun (y3 : (Int × (List Int))) => .ok y3
def t99_worst_split (v_curve : (List (Int × Int × Int))) (v_total : Int) (v_parts : Int) : R (Int × (List Int)) :=
  R.bind (t97_check_split v_curve v_total v_parts) fun (y1 : Unit) => R.bind (t96_all_splits v_curve v_total v_parts) fun (y2 : (List (Int × (List Int)))) => R.bind (R.of (mnB (lt2 ltI (ltU ltI)) y2)) fun (y3 : (Int × (List Int))) => .ok y3
def t102_law_shows (v_curve : (List (Int × Int × Int))) (v_total : Int) (v_parts : Int) (v_found : (Int × (List Int))) (v_meant : Int) : R Bool :=
  if ((decide (2 ≠ 2)) || (!(decide (v_found.1 = v_meant)))) = true then (.ok false) else (R.bind (if false = true then (.ok true) else (if (decide (((List.length v_found.2 : Nat) : Int) ≠ v_parts)) = true then (.ok true) else (R.guard (szL v_found.2) <| R.bind (filR (fun (a7 : Int) => R.bind (t28_law_is_whole a7) fun (y8 : Bool) => if ((!y8) || (decide (a7 < 0))) = true then (.ok (some a7)) else .ok none) v_found.2) fun (y11 : (List Int)) => .ok (decide (y11 ≠ ([] : (List Int))))))) fun (y4 : Bool) => if y4 = true then (.ok false) else (R.bind (if (decide ((List.sum v_found.2) = v_total)) = true then (R.guard (szL v_found.2) <| R.bind (mapR (fun (a15 : Int) => R.bind (t8b_law_at v_curve a15) fun (y16 : Int) => .ok y16) v_found.2) fun (y17 : (List Int)) => .ok (decide ((List.sum y17) = v_meant))) else (.ok false)) fun (y13 : Bool) => .ok y13))
def t103_law (v_script : (List Int)) : R Bool :=
  R.guard (szA (α := Int) [0] v_script) <| R.ctl (forC (ρ := Bool) (fun (a2 : Int) (u1 : Unit) => R.bind (t4_law_source a2 11) fun (y3 : Sc) => R.draw (t100_law_small y3) fun (y4 : (List (Int × Int × Int)) × Sc) => R.draw (t5_law_draw y4.2 31) fun (y5 : Int × Sc) => R.draw (t5_law_draw y5.2 4) fun (y6 : Int × Sc) => R.bind (t101_law_sums y4.1 y5.1 (1 + y6.1)) fun (y7 : (List (Int × Int))) => R.bind (R.of (ixR y7 y5.1)) fun (y8 : (Int × Int)) => R.bind (t98_best_split y4.1 y5.1 (1 + y6.1)) fun (y10 : (Int × (List Int))) => R.bind (t102_law_shows y4.1 y5.1 (1 + y6.1) y10 y8.1) fun (y11 : Bool) => if (!y11) = true then (.ok (.rt false)) else (R.bind (t99_worst_split y4.1 y5.1 (1 + y6.1)) fun (y13 : (Int × (List Int))) => R.bind (t102_law_shows y4.1 y5.1 (1 + y6.1) y13 y8.2) fun (y14 : Bool) => if (!y14) = true then (.ok (.rt false)) else (.ok (.nx ())))) (cutG ([0] ++ v_script) none (some 9)) ()) (fun (u1 : Unit) => .ok true) (fun x => x)
end Tp
/-! Cu1: curves as lists of pieces. -/
namespace Tp
open PySem
abbrev Pi := Int × Int × Int
abbrev Cu := List Pi
def pval (p : Pi) (x : Int) : Int := p.2.1 + p.2.2 * (x - p.1)
/-- the last piece whose start is at most x -/
def lastP (c : Cu) (x : Int) : Option Pi := (c.filter fun p => decide (p.1 ≤ x)).getLast?
/-- the value at a number -/
def wv (c : Cu) (x : Int) : Int := match lastP c x with | some p => pval p x | none => 0
def sl (c : Cu) (x : Int) : Int := match lastP c x with | some p => p.2.2 | none => 0
def bg (i : Int) : Prop := i.natAbs < 10 ^ 100
def bs (i : Int) : Prop := i.natAbs < 10 ^ 90
structure Cur (c : Cu) : Prop where
  head : ∃ p r, c = p :: r ∧ p.1 = 0
  inc : c.Pairwise fun a b => a.1 < b.1
  len : c.length ≤ 1000
  bd : ∀ p ∈ c, bs p.1 ∧ bs p.2.1 ∧ bs p.2.2
theorem bs_bg {i : Int} (h : bs i) : bg i := Nat.lt_trans h (by decide)
theorem Cur.bdg {c : Cu} (h : Cur c) : ∀ p ∈ c, bg p.1 ∧ bg p.2.1 ∧ bg p.2.2 := fun p hp => ⟨bs_bg (h.bd p hp).1, bs_bg (h.bd p hp).2.1, bs_bg (h.bd p hp).2.2⟩
theorem bg_sm {i : Int} (h : bg i) : sm i = true := decide_eq_true (Nat.lt_trans h (by decide))
theorem sm_big {i : Int} (h : i.natAbs < 10 ^ 200) : sm i = true := decide_eq_true (Nat.lt_trans h (by decide))
theorem Cur.pos {c : Cu} (h : Cur c) : ∀ p ∈ c, 0 ≤ p.1 := by
  obtain ⟨q, r, rfl, h0⟩ := h.head
  intro p hp
  rcases List.mem_cons.mp hp with rfl | hp
  · omega
  · have := (List.pairwise_cons.mp h.inc).1 p hp
    omega
theorem lastP_some {c : Cu} (h : Cur c) {x : Int} (hx : 0 ≤ x) : ∃ p, lastP c x = some p := by
  obtain ⟨q, r, rfl, h0⟩ := h.head
  unfold lastP
  rw [List.filter_cons, if_pos (by simp; omega)]
  exact ⟨_, List.getLast?_eq_some_getLast (by simp)⟩
theorem lastP_mem {c : Cu} {x : Int} {p : Pi} (h : lastP c x = some p) : p ∈ c ∧ p.1 ≤ x := by
  have := List.mem_of_getLast? h
  rw [List.mem_filter] at this
  exact ⟨this.1, of_decide_eq_true this.2⟩
theorem lastP_max {c : Cu} (hi : c.Pairwise fun a b => a.1 < b.1) {x : Int} {p q : Pi} (h : lastP c x = some p) (hq : q ∈ c) (hx : q.1 ≤ x) : q.1 ≤ p.1 := by
  unfold lastP at h
  obtain ⟨ys, e⟩ := List.getLast?_eq_some_iff.mp h
  have hm : q ∈ c.filter fun p => decide (p.1 ≤ x) := List.mem_filter.mpr ⟨hq, decide_eq_true hx⟩
  have hs : (c.filter fun p => decide (p.1 ≤ x)).Pairwise fun a b => a.1 < b.1 := hi.filter _
  rw [e] at hm hs
  rcases List.mem_append.mp hm with h1 | h1
  · have := (List.pairwise_append.mp hs).2.2 q h1 p (List.mem_singleton.mpr rfl)
    omega
  · rw [List.mem_singleton] at h1
    subst h1
    omega
theorem start_inj {c : Cu} (hi : c.Pairwise fun a b => a.1 < b.1) {p q : Pi} (hp : p ∈ c) (hq : q ∈ c) (h : p.1 = q.1) : p = q := by
  induction c with
  | nil => cases hp
  | cons a r ih =>
    obtain ⟨h1, h2⟩ := List.pairwise_cons.mp hi
    rcases List.mem_cons.mp hp with rfl | hp <;> rcases List.mem_cons.mp hq with rfl | hq
    · rfl
    · have := h1 q (by assumption); omega
    · have := h1 p (by assumption); omega
    · exact ih h2 hp hq
theorem lastP_of {c : Cu} (h : Cur c) {x : Int} {p : Pi} (hp : p ∈ c) (hx : p.1 ≤ x) (hm : ∀ q ∈ c, q.1 ≤ x → q.1 ≤ p.1) : lastP c x = some p := by
  obtain ⟨r, e⟩ := lastP_some h (Int.le_trans (h.pos p hp) hx)
  obtain ⟨h1, h2⟩ := lastP_mem e
  have h3 := lastP_max h.inc e hp hx
  have h4 := hm r h1 h2
  rw [e, start_inj h.inc h1 hp (by omega)]
theorem wv_of {c : Cu} (h : Cur c) {x : Int} {p : Pi} (hp : p ∈ c) (hx : p.1 ≤ x) (hm : ∀ q ∈ c, q.1 ≤ x → q.1 ≤ p.1) : wv c x = pval p x := by
  unfold wv
  rw [lastP_of h hp hx hm]
/-- no start between: the same piece -/
theorem lastP_same {c : Cu} (h : Cur c) {x y : Int} (hx : 0 ≤ x) (hxy : x ≤ y) (hn : ∀ p ∈ c, ¬ (x < p.1 ∧ p.1 ≤ y)) : lastP c y = lastP c x := by
  obtain ⟨p, e⟩ := lastP_some h hx
  obtain ⟨h1, h2⟩ := lastP_mem e
  rw [e]
  refine lastP_of h h1 (by omega) fun q hq hy => ?_
  by_cases z : q.1 ≤ x
  · exact lastP_max h.inc e hq z
  · exact absurd ⟨by omega, hy⟩ (hn q hq)
theorem wv_step {c : Cu} (h : Cur c) {x : Int} (hx : 0 ≤ x) (hn : ∀ p ∈ c, p.1 ≠ x + 1) : wv c (x + 1) = wv c x + sl c x := by
  have e := lastP_same h hx (show x ≤ x + 1 by omega) fun p hp z => hn p hp (by omega)
  obtain ⟨p, ep⟩ := lastP_some h hx
  unfold wv sl
  rw [e, ep]
  simp only [pval]
  rw [show x + 1 - p.1 = (x - p.1) + 1 by omega, Int.mul_add, Int.mul_one]
  omega
/-- numbers that are neither the first nor the last one of a piece -/
theorem wv_flat {c : Cu} (h : Cur c) {x : Int} (hx : 0 < x) (h1 : ∀ p ∈ c, p.1 ≠ x) (h2 : ∀ p ∈ c, p.1 ≠ x + 1) : wv c (x + 1) - wv c x = wv c x - wv c (x - 1) := by
  have a := wv_step h (show 0 ≤ x by omega) h2
  have b := wv_step h (show 0 ≤ x - 1 by omega) (fun p hp => by rw [show x - 1 + 1 = x by omega]; exact h1 p hp)
  rw [show x - 1 + 1 = x by omega] at b
  have e := lastP_same h (show 0 ≤ x - 1 by omega) (show x - 1 ≤ x by omega) fun p hp z => h1 p hp (by omega)
  have : sl c x = sl c (x - 1) := by unfold sl; rw [e]
  omega
/-! ### what the program reckons -/
theorem ixR_last {α : Type} (xs : List α) : ixR xs (-1) = xs.getLast? := by
  unfold ixR
  rw [if_pos (by decide), List.getLast?_eq_getElem?]
  by_cases h : xs.length = 0
  · have : xs = [] := List.length_eq_zero_iff.mp h
    subst this
    rfl
  · rw [if_pos (by omega)]
    congr 1
    omega
theorem ixR_zero {α : Type} (xs : List α) : ixR xs 0 = xs.head? := by
  unfold ixR
  rw [if_neg (by decide)]
  cases xs <;> rfl
theorem ixR_nat {α : Type} (xs : List α) (i : Nat) : ixR xs (i : Int) = xs[i]? := by
  unfold ixR
  rw [if_neg (by omega), Int.toNat_natCast]
theorem bg_sub {x y : Int} (h : bg x) (h2 : bg y) : sm (x - y) = true := sm_big (by unfold bg at h h2; omega)
theorem smm_of {i j : Int} (h : sm i = true) (h2 : sm j = true) : smm i j = true := by unfold smm; rw [h, h2]; rfl
theorem at_eq {c : Cu} (h : Cur c) {x : Int} (hx : 0 ≤ x) (hb : bg x) : t8_law_at c x = .ok (wv c x) := by
  obtain ⟨p, e⟩ := lastP_some h hx
  obtain ⟨h1, h2⟩ := lastP_mem e
  have b := h.bdg p h1
  have e2 := e
  unfold lastP at e2
  unfold t8_law_at
  rw [R.guard_of (szL_le (Nat.le_trans h.len (by decide)))]
  simp only [filR_ok, R.bind_ok, List.map_id', ixR_last, e2, R.of_some]
  rw [R.guard_of (smm_of (bg_sm b.2.2) (bg_sub hb b.1))]
  unfold wv
  rw [e]
  rfl
theorem at_eqb {c : Cu} (h : Cur c) {x : Int} (hx : 0 ≤ x) (hb : bg x) : t8b_law_at c x = .ok (wv c x) := at_eq h hx hb
theorem fold_last (x : Int) : ∀ (c : Cu) (f : Pi), c.foldl (fun s a => if a.1 ≤ x then a else s) f = ((c.filter fun p => decide (p.1 ≤ x)).getLast?).getD f
  | [], f => rfl
  | a :: c, f => by
    rw [List.foldl_cons, fold_last, List.filter_cons]
    by_cases h : a.1 ≤ x
    · rw [if_pos h, if_pos (decide_eq_true h)]
      cases hl : c.filter (fun p => decide (p.1 ≤ x)) with
      | nil => rfl
      | cons b r => simp [List.getLast?_cons]
    · rw [if_neg h, if_neg (by simpa using h)]
theorem piece_eq {c : Cu} (h : Cur c) {x : Int} (hx : 0 ≤ x) {p : Pi} (e : lastP c x = some p) : t18_piece_at c x = .ok p := by
  obtain ⟨q, r, rfl, h0⟩ := h.head
  unfold t18_piece_at
  rw [ixR_zero]
  simp only [List.head?_cons, R.of_some, R.bind_ok]
  rw [forT_of (g := fun s a => if a.1 ≤ x then a else s) fun a _ s => by by_cases z : a.1 ≤ x <;> simp [z]]
  rw [fold_last]
  unfold lastP at e
  rw [e]
  rfl
theorem worth_eq {c : Cu} (h : Cur c) {x : Int} (hx : 0 ≤ x) (hb : bg x) : t19_worth c x = .ok (wv c x) := by
  obtain ⟨p, e⟩ := lastP_some h hx
  obtain ⟨h1, h2⟩ := lastP_mem e
  have b := h.bdg p h1
  unfold t19_worth
  rw [piece_eq h hx e, R.bind_ok, R.guard_of (smm_of (bg_sm b.2.2) (bg_sub hb b.1))]
  unfold wv
  rw [e]
  rfl
/-! ### recognized -/
def shortI (i : Int) : Prop := i.natAbs < 10 ^ 40
theorem is_short_eq {i : Int} (h : shortI i) : (if i < 0 then -i else i) < 10000000000000000000000000000000000000000 := by
  unfold shortI at h
  split <;> omega
theorem t2_eq {i : Int} (h : shortI i) : t2_is_short i 10000000000000000000000000000000000000000 = .ok true := by
  unfold t2_is_short t1_is_integer
  simp [is_short_eq h]
def icB (a4 : (Int × Int × Int)) (u3 : Int) : R (Ctl Int Bool) := if (decide (3 ≠ 3)) = true then (.ok (.rt false)) else (R.guard (szL ([a4.1, a4.2.1, a4.2.2] : (List Int))) <| R.bind (mapR (fun (a6 : Int) => R.bind (t2_is_short a6 10000000000000000000000000000000000000000) fun (y7 : Bool) => .ok y7) ([a4.1, a4.2.1, a4.2.2] : (List Int))) fun (y8 : (List Bool)) => if ((!(List.all y8 id)) || (decide (a4.1 ≤ u3))) = true then (.ok (.rt false)) else (.ok (.nx a4.1)))
theorem icB_ok {a : Pi} {last : Int} (h : last < a.1) (a2 : shortI a.1) (a3 : shortI a.2.1) (a4 : shortI a.2.2) : icB a last = .ok (.nx a.1) := by
  unfold icB
  have e : szL ([a.1, a.2.1, a.2.2] : List Int) = true := szL_le (by simp)
  have n : ¬ a.1 ≤ last := by omega
  simp only [e, R.guard_t, mapR, t2_eq a2, t2_eq a3, t2_eq a4, R.bind_ok]
  simp [n]
theorem isc_loop {l : Cu} : ∀ {last : Int}, (∀ p ∈ l, last < p.1 ∧ shortI p.1 ∧ shortI p.2.1 ∧ shortI p.2.2) → l.Pairwise (fun a b => a.1 < b.1) → ∃ z, forC icB l last = .ok (.nx z) := by
  induction l with
  | nil => intro last _ _; exact ⟨last, rfl⟩
  | cons a l ih =>
    intro last h hp
    obtain ⟨h1, h2⟩ := List.pairwise_cons.mp hp
    obtain ⟨z, hz⟩ := ih (last := a.1) (fun p hp => ⟨h1 p hp, (h p (List.mem_cons_of_mem _ hp)).2⟩) h2
    obtain ⟨a1, a2, a3, a4⟩ := h a List.mem_cons_self
    refine ⟨z, ?_⟩
    unfold forC
    rw [icB_ok a1 a2 a3 a4]
    exact hz
structure Short (c : Cu) : Prop where
  cur : Cur c
  few : c.length ≤ 24
  sh : ∀ p ∈ c, shortI p.1 ∧ shortI p.2.1 ∧ shortI p.2.2
theorem is_curve_eq {c : Cu} (h : Short c) : t3_is_curve c = .ok true := by
  obtain ⟨p, r, rfl, h0⟩ := h.cur.head
  have hf := h.few
  obtain ⟨z, hz⟩ := isc_loop (l := p :: r) (last := -1) (fun q hq => ⟨by have := h.cur.pos q hq; omega, h.sh q hq⟩) h.cur.inc
  unfold t3_is_curve
  rw [if_neg (by simp at hf ⊢; omega)]
  show R.ctl (forC icB (p :: r) (-1)) _ _ = _
  rw [hz]
  simp [ixR_zero, h0]
theorem check_curve_eq {c : Cu} (h : Short c) : t17_check_curve c = .ok () := by
  unfold t17_check_curve
  rw [is_curve_eq h]
  rfl
theorem is_natural_eq {x : Int} (h : 0 ≤ x) (h2 : x ≤ 10 ^ 40) : t15_is_natural x = .ok true := by
  unfold t15_is_natural t1_is_integer
  have : x ≤ 10000000000000000000000000000000000000000 := h2
  simp [h, this]
theorem check_natural_eq {x : Int} (h : 0 ≤ x) (h2 : x ≤ 10 ^ 40) : t16_check_natural x = .ok () := by
  unfold t16_check_natural
  rw [is_natural_eq h h2]
  rfl
end Tp
/-! Dr1: draws. -/
namespace Tp
open PySem
/-- a source that has drawn at most t times -/
structure Sok (t : Nat) (s : Sc) : Prop where
  a : 0 ≤ s.1
  m : 0 ≤ s.2.1 ∧ s.2.1 < 2147483579
  k : 0 ≤ s.2.2 ∧ s.2.2 ≤ t
theorem Sok.mono {t u : Nat} {s : Sc} (h : Sok t s) (l : t ≤ u) : Sok u s := ⟨h.a, h.m, h.k.1, by have := h.k.2; omega⟩
theorem fmod_pos' {a b : Int} (h : 0 < b) : 0 ≤ a.fmod b ∧ a.fmod b < b := ⟨Int.fmod_nonneg_of_pos a h, Int.fmod_lt_of_pos a h⟩
theorem source_all (c : Int) (t : Nat) : (t4_law_source c t).All (Sok t) := by
  have hm := fmod_pos' (a := c) (b := 2147483579) (by decide)
  unfold t4_law_source
  by_cases h : 1000000000000000000 ≤ c
  · rw [if_pos (by simpa using h)]
    exact ⟨_, rfl, by show 0 ≤ c - 1000000000000000000; omega, hm, by show (0 : Int) ≤ t; omega, Int.le_refl _⟩
  · rw [if_neg (by simpa using h)]
    exact ⟨_, rfl, Int.le_refl _, hm, by show (0 : Int) ≤ t; omega, Int.le_refl _⟩
theorem draw_all {t : Nat} {s : Sc} (hs : Sok t s) {size : Int} (ht : t < 2 ^ 40 := by omega) (h1 : 1 ≤ size := by omega) (h2 : size.natAbs < 10 ^ 200 := by omega) :
    (t5_law_draw s size).All fun y => 0 ≤ y.1 ∧ y.1 < size ∧ Sok (t + 1) y.2 := by
  obtain ⟨a, m, k⟩ := s
  obtain ⟨ha, ⟨hm, hm2⟩, hk, hk2⟩ := hs
  simp only at ha hm hm2 hk hk2
  have z0 : size ≠ 0 := by omega
  have g1 : mdOk size = true := decide_eq_true z0
  have g2 : dvOk size = true := by unfold dvOk; rw [sm_big h2]; simp [z0]
  unfold t5_law_draw
  by_cases h : 1 < a
  · rw [if_pos (by simpa using h), R.guard_of g1, R.guard_of g2]
    refine ⟨_, rfl, (fmod_pos' (by omega)).1, (fmod_pos' (by omega)).2, ?_, ⟨hm, hm2⟩, hk, by show k ≤ _; omega⟩
    show 0 ≤ a.fdiv size
    rw [Int.fdiv_eq_ediv_of_nonneg _ (by omega)]
    exact Int.ediv_nonneg ha (by omega)
  · rw [if_neg (by simpa using h)]
    simp only
    have e1 : smm 15485867 (k + 1) = true := smm_of (by decide) (sm_big (Nat.lt_trans (show (k + 1).natAbs < 2 ^ 50 by omega) (by decide)))
    have e2 : pwOk (m + 15485867 * (k + 1)) 5 = true := decide_eq_true ⟨by decide, by decide, by omega⟩
    have e3 : smm 7919 (k + 1) = true := smm_of (by decide) (sm_big (Nat.lt_trans (show (k + 1).natAbs < 2 ^ 50 by omega) (by decide)))
    have hnb := fmod_pos' (a := (m + 15485867 * (k + 1)) ^ Int.toNat 5) (b := 2147483647) (by decide)
    have e4 : pwOk (((m + 15485867 * (k + 1)) ^ Int.toNat 5).fmod 2147483647 + 7919 * (k + 1)) 3 = true := decide_eq_true ⟨by decide, by decide, by omega⟩
    rw [R.guard_of e1, R.guard_of e2, R.guard_of e3, R.guard_of e4, R.guard_of g1]
    exact ⟨_, rfl, (fmod_pos' (by omega)).1, (fmod_pos' (by omega)).2, ha, ⟨hm, hm2⟩, by show 0 ≤ k + 1; omega, by show k + 1 ≤ _; omega⟩
theorem choice_all {α : Type} {t : Nat} {s : Sc} (hs : Sok t s) {xs : List α} (ht : t < 2 ^ 40 := by omega) (h1 : xs ≠ [] := by simp) (h2 : xs.length ≤ 1000 := by simp) :
    (t6_choice s xs).All fun y => y.1 ∈ xs ∧ Sok (t + 1) y.2 := by
  have hl : 1 ≤ xs.length := List.length_pos_iff.mpr h1
  unfold t6_choice
  refine (draw_all hs (size := (xs.length : Int)) ht (by omega) (Nat.lt_of_le_of_lt (show _ ≤ 1000 by omega) (by decide))).draw fun y ⟨y1, y2, y3⟩ => ?_
  have hd : y.1.toNat < xs.length := by omega
  have e : ixR xs y.1 = some xs[y.1.toNat] := by
    unfold ixR
    rw [if_neg (by omega), List.getElem?_eq_getElem hd]
  exact .of e ⟨_, rfl, List.getElem_mem hd, y3⟩
/-! ### loops that gather -/
theorem forT_flat {α β : Type} {b : α → List β → R (List β)} {g : α → List β} {k : Nat} : ∀ {l : List α} {s : List β}, (∀ a ∈ l, ∀ s : List β, s.length + (g a).length ≤ 100000 → b a s = .ok (s ++ g a)) → (∀ a ∈ l, (g a).length ≤ k) → s.length + l.length * k ≤ 100000 → forT b l s = .ok (s ++ l.flatMap g)
  | [], s, _, _, _ => by simp [forT]
  | a :: l, s, hb, hk, hs => by
    have k1 := hk a List.mem_cons_self
    rw [List.length_cons, Nat.add_mul, Nat.one_mul] at hs
    unfold forT
    rw [hb a List.mem_cons_self s (by omega), R.bind_ok, forT_flat (fun x hx => hb x (List.mem_cons_of_mem _ hx)) (fun x hx => hk x (List.mem_cons_of_mem _ hx)) (by rw [List.length_append]; omega)]
    simp [List.flatMap_cons, List.append_assoc]
/-- a search -/
theorem forC_find {α ρ : Type} {b : α → Unit → R (Ctl Unit ρ)} {q : α → Bool} {f : α → ρ} : ∀ {l : List α}, (∀ a ∈ l, b a () = .ok (if q a = true then .rt (f a) else .nx ())) → forC b l () = .ok (match l.find? q with | some a => .rt (f a) | none => .nx ())
  | [], _ => rfl
  | a :: l, h => by
    unfold forC
    rw [h a List.mem_cons_self, List.find?_cons]
    cases z : q a with
    | true => rfl
    | false =>
      simp only [R.bind_ok, Bool.false_eq_true, if_false]
      exact forC_find fun x hx => h x (List.mem_cons_of_mem _ hx)
theorem rngI_mem {lo hi x : Int} : x ∈ rngI lo hi ↔ lo ≤ x ∧ x < hi := by
  unfold rngI
  rw [List.mem_map]
  constructor
  · rintro ⟨i, h1, rfl⟩
    rw [List.mem_range] at h1
    omega
  · intro h
    exact ⟨(x - lo).toNat, List.mem_range.mpr (by omega), by omega⟩
theorem rngI_len (lo hi : Int) : (rngI lo hi).length = (hi - lo).toNat := by unfold rngI; simp
/-- every turn goes on -/
theorem forC_all {α ρ : Type} {b : α → Unit → R (Ctl Unit ρ)} : ∀ {l : List α}, (∀ a ∈ l, b a () = .ok (.nx ())) → forC b l () = .ok (.nx ())
  | [], _ => rfl
  | a :: l, h => by
    unfold forC
    rw [h a List.mem_cons_self]
    exact forC_all fun x hx => h x (List.mem_cons_of_mem _ hx)
theorem srOk_lt {xs : List Int} (h : xs.length < 4000) : srOk xs = true := decide_eq_true h
theorem memD_of {α : Type} [DecidableEq α] {x : α} {ys : List α} (h : x ∈ ys) : memD x ys = true := decide_eq_true h
theorem memD_not {α : Type} [DecidableEq α] {x : α} {ys : List α} (h : ¬ x ∈ ys) : memD x ys = false := decide_eq_false h
theorem cells_len {α : Type} (z : α) (xs : List α) (h : xs.length ≤ 63) : szA [z] xs = true := szA_le (by simp; omega)
end Tp
/-! Cu2: normal forms. -/
namespace Tp
open PySem
/-- the numbers behind s up to e have the same difference, and s itself has not -/
structure RunS (f : Int → Int) (e s d : Int) : Prop where
  lo : 0 ≤ s
  le : s ≤ e
  eq : ∀ y, s < y → y ≤ e → f y - f (y - 1) = d
  ne : s = 0 ∨ f s - f (s - 1) ≠ d
theorem RunS.uniq {f : Int → Int} {e s s' d : Int} (h : RunS f e s d) (k : RunS f e s' d) : s = s' := by
  rcases Int.lt_trichotomy s s' with l | l | l
  · rcases k.ne with z | z
    · have := h.lo; omega
    · exact absurd (h.eq s' l k.le) z
  · exact l
  · rcases h.ne with z | z
    · have := k.lo; omega
    · exact absurd (k.eq s l h.le) z
theorem linear {f : Int → Int} {s d : Int} {e : Int} (h : ∀ y, s < y → y ≤ e → f y - f (y - 1) = d) : ∀ n : Nat, s + n ≤ e → f (s + n) = f s + d * n
  | 0, _ => by simp
  | n + 1, hn => by
    have ih := linear h n (by omega)
    have := h (s + (n + 1 : Nat)) (by omega) hn
    rw [show s + ((n + 1 : Nat) : Int) - 1 = s + n by omega] at this
    rw [show ((n + 1 : Nat) : Int) = (n : Int) + 1 by omega] at this ⊢
    rw [Int.mul_add, Int.mul_one]
    omega
theorem linear' {f : Int → Int} {s d e x : Int} (h : ∀ y, s < y → y ≤ e → f y - f (y - 1) = d) (h1 : s ≤ x) (h2 : x ≤ e) : f x = f s + d * (x - s) := by
  have := linear h (x - s).toNat (by omega)
  rw [show s + (((x - s).toNat : Nat) : Int) = x by omega, show (((x - s).toNat : Nat) : Int) = x - s by omega] at this
  exact this
/-- the start ahead of a start -/
def NextS (f : Int → Int) (s s' : Int) : Prop := (s = 1 ∧ s' = 0) ∨ (1 < s ∧ RunS f (s - 1) s' (f (s - 1) - f (s - 2)))
theorem NextS.uniq {f : Int → Int} {s s' s'' : Int} (h : NextS f s s') (k : NextS f s s'') : s' = s'' := by
  rcases h with h | ⟨h1, h⟩ <;> rcases k with k | ⟨k1, k⟩
  · omega
  · omega
  · omega
  · exact h.uniq k
theorem NextS.lt {f : Int → Int} {s s' : Int} (h : NextS f s s') : 0 ≤ s' ∧ s' < s := by
  rcases h with h | ⟨h1, h⟩
  · omega
  · have := h.lo; have := h.le; omega
def pc (f : Int → Int) (s : Int) : Pi := (s, f s, f (s + 1) - f s)
/-- the normal pieces from the last one down -/
inductive Back (f : Int → Int) : Int → Cu → Prop
  | zero : Back f 0 [pc f 0]
  | cons {s s' : Int} {l : Cu} : 0 < s → NextS f s s' → Back f s' l → Back f s (pc f s :: l)
theorem Back.uniq {f : Int → Int} {s : Int} {l : Cu} (h : Back f s l) : ∀ {l' : Cu}, Back f s l' → l = l' := by
  induction h with
  | zero =>
    intro l' k
    cases k with
    | zero => rfl
    | cons a _ _ => omega
  | cons a n b ih =>
    intro l' k
    cases k with
    | zero => omega
    | cons a' n' b' =>
      have := n.uniq n'
      subst this
      rw [ih b']
/-- from s on it is straight, and not from ahead of it -/
structure Tail (f : Int → Int) (s : Int) : Prop where
  lo : 0 ≤ s
  ex : ∃ d, (∀ y, s < y → f y - f (y - 1) = d) ∧ (s = 0 ∨ f s - f (s - 1) ≠ d)
theorem Tail.uniq {f : Int → Int} {s s' : Int} (h : Tail f s) (k : Tail f s') : s = s' := by
  obtain ⟨d, h1, h2⟩ := h.ex
  obtain ⟨d', k1, k2⟩ := k.ex
  have h0 := h.lo
  have k0 := k.lo
  have e : d = d' := by
    have a := h1 (s + s' + 1) (by omega)
    have b := k1 (s + s' + 1) (by omega)
    omega
  subst e
  rcases Int.lt_trichotomy s s' with l | l | l
  · rcases k2 with z | z
    · omega
    · exact absurd (h1 s' l) z
  · exact l
  · rcases h2 with z | z
    · omega
    · exact absurd (k1 s l) z
/-- the normal form of a function -/
def NF (f : Int → Int) (l : Cu) : Prop := ∃ s, Tail f s ∧ Back f s l.reverse
theorem NF.uniq {f : Int → Int} {l l' : Cu} (h : NF f l) (k : NF f l') : l = l' := by
  obtain ⟨s, h1, h2⟩ := h
  obtain ⟨s', k1, k2⟩ := k
  have := h1.uniq k1
  subst this
  have := h2.uniq k2
  rw [← List.reverse_reverse l, this, List.reverse_reverse]
/-- it depends on the values at natural numbers only -/
theorem NextS.cg {f g : Int → Int} (e : ∀ x, 0 ≤ x → f x = g x) {s s' : Int} (h : NextS f s s') : NextS g s s' := by
  rcases h with h | ⟨h1, h⟩
  · exact .inl h
  · refine .inr ⟨h1, h.lo, h.le, fun y y1 y2 => ?_, ?_⟩
    · have := h.lo
      rw [← e y (by omega), ← e (y - 1) (by omega), ← e (s - 1) (by omega), ← e (s - 2) (by omega)]
      exact h.eq y y1 y2
    · by_cases z : s' = 0
      · exact .inl z
      · have := h.lo
        rw [← e s' (by omega), ← e (s' - 1) (by omega), ← e (s - 1) (by omega), ← e (s - 2) (by omega)]
        exact h.ne
theorem Back.cg {f g : Int → Int} (e : ∀ x, 0 ≤ x → f x = g x) {s : Int} {l : Cu} (h : Back f s l) : Back g s l := by
  induction h with
  | zero =>
    have : pc f 0 = pc g 0 := by unfold pc; rw [e 0 (by omega), e (0 + 1) (by omega)]
    rw [this]
    exact .zero
  | cons a n b ih =>
    rename_i s s' l
    have : pc f s = pc g s := by unfold pc; rw [e s (by omega), e (s + 1) (by omega)]
    rw [this]
    exact .cons a (n.cg e) ih
theorem Tail.cg {f g : Int → Int} (e : ∀ x, 0 ≤ x → f x = g x) {s : Int} (h : Tail f s) : Tail g s := by
  obtain ⟨d, h1, h2⟩ := h.ex
  have h0 := h.lo
  refine ⟨h0, d, fun y hy => ?_, ?_⟩
  · rw [← e y (by omega), ← e (y - 1) (by omega)]
    exact h1 y hy
  · by_cases z : s = 0
    · exact .inl z
    · rw [← e s (by omega), ← e (s - 1) (by omega)]
      exact h2
theorem NF.cg {f g : Int → Int} (e : ∀ x, 0 ≤ x → f x = g x) {l : Cu} (h : NF f l) : NF g l := by
  obtain ⟨s, h1, h2⟩ := h
  exact ⟨s, h1.cg e, h2.cg e⟩
/-! ### what a normal form is worth -/
theorem Back.starts {f : Int → Int} {s : Int} {l : Cu} (h : Back f s l) : (∀ p ∈ l, 0 ≤ p.1 ∧ p.1 ≤ s ∧ p = pc f p.1) ∧ l.Pairwise (fun a b => b.1 < a.1) ∧ (∃ q, l.getLast? = some q ∧ q.1 = 0) ∧ 0 ≤ s ∧ l.head? = some (pc f s) := by
  induction h with
  | zero => exact ⟨fun p hp => by rw [List.mem_singleton] at hp; subst hp; exact ⟨Int.le_refl _, Int.le_refl _, rfl⟩, List.pairwise_singleton _ _, ⟨_, rfl, rfl⟩, Int.le_refl _, rfl⟩
  | cons a n b ih =>
    rename_i s s' l
    obtain ⟨i1, i2, ⟨q, i3, i4⟩, i5, i6⟩ := ih
    have := n.lt
    refine ⟨fun p hp => ?_, List.pairwise_cons.mpr ⟨fun p hp => ?_, i2⟩, ⟨q, ?_, i4⟩, by omega, rfl⟩
    · rcases List.mem_cons.mp hp with rfl | hp
      · exact ⟨by show 0 ≤ s; omega, Int.le_refl _, rfl⟩
      · have := i1 p hp
        exact ⟨this.1, by omega, this.2.2⟩
    · have := i1 p hp
      show p.1 < s
      omega
    · rw [List.getLast?_cons, i3]
      rfl
/-- between its starts the function is straight -/
theorem Back.line {f : Int → Int} {s : Int} {l : Cu} (h : Back f s l) : ∀ x, 0 ≤ x → x < s → ∀ p ∈ l, p.1 ≤ x → (∀ q ∈ l, q.1 ≤ x → q.1 ≤ p.1) → f x = pval p x := by
  induction h with
  | zero => intro x h0 h1; omega
  | cons a n b ih =>
    rename_i s s' l
    intro x h0 h1 p hp hx hm
    obtain ⟨i1, i2, i3, i5, i6⟩ := b.starts
    have hp' : p ∈ l := by
      rcases List.mem_cons.mp hp with rfl | hp
      · have : s ≤ x := hx
        omega
      · exact hp
    by_cases hs : x < s'
    · exact ih x h0 hs p hp' hx fun q hq => hm q (List.mem_cons_of_mem _ hq)
    · -- the piece at s'
      have hin : pc f s' ∈ l := List.mem_of_head? i6
      have e1 := i1 p hp'
      have e2 := hm _ (List.mem_cons_of_mem _ hin) (show s' ≤ x by omega)
      have ps : p.1 = s' := by have : s' ≤ p.1 := e2; omega
      have : p = pc f s' := by rw [e1.2.2, ps]
      subst this
      unfold pc pval
      simp only
      rcases n with ⟨n1, n2⟩ | ⟨n1, n2⟩
      · have : x = s' := by omega
        subst this
        simp
      · have l1 := linear' n2.eq (x := x) (by omega) (by omega)
        by_cases q : x = s'
        · subst q; simp
        · have l2 := n2.eq (s' + 1) (by omega) (by omega)
          rw [show s' + 1 - 1 = s' by omega] at l2
          rw [l1, l2]
theorem NF.facts {f : Int → Int} {l : Cu} (h : NF f l) : (∃ p r, l = p :: r ∧ p.1 = 0) ∧ l.Pairwise (fun a b => a.1 < b.1) ∧ (∀ p ∈ l, 0 ≤ p.1 ∧ p = pc f p.1) := by
  obtain ⟨s, h1, h2⟩ := h
  obtain ⟨i1, i2, ⟨q, i3, i4⟩, i5, i6⟩ := h2.starts
  refine ⟨?_, ?_, fun p hp => ?_⟩
  · rw [List.getLast?_reverse] at i3
    cases l with
    | nil => cases i3
    | cons p r =>
      cases i3
      exact ⟨_, _, rfl, i4⟩
  · rw [List.pairwise_reverse] at i2
    exact i2
  · have := i1 p (List.mem_reverse.mpr hp)
    exact ⟨this.1, this.2.2⟩
theorem NF.wv_eq {f : Int → Int} {l : Cu} (h : NF f l) (hc : Cur l) : ∀ x, 0 ≤ x → wv l x = f x := by
  intro x hx
  obtain ⟨p, e⟩ := lastP_some hc hx
  obtain ⟨p1, p2⟩ := lastP_mem e
  have pm := fun q hq hqx => lastP_max hc.inc e (q := q) hq hqx
  have h' := h
  obtain ⟨s, t, b⟩ := h
  obtain ⟨i1, i2, i3, i5, i6⟩ := b.starts
  have w : wv l x = pval p x := by unfold wv; rw [e]
  rw [w]
  by_cases hs : x < s
  · exact (b.line x hx hs p (List.mem_reverse.mpr p1) p2 fun q hq => pm q (List.mem_reverse.mp hq)).symm
  · have hin : pc f s ∈ l := List.mem_reverse.mp (List.mem_of_head? i6)
    have e1 := i1 p (List.mem_reverse.mpr p1)
    have e2 : s ≤ p.1 := pm _ hin (show s ≤ x by omega)
    have ps : p.1 = s := by omega
    have : p = pc f s := by rw [e1.2.2, ps]
    subst this
    obtain ⟨d, t1, t2⟩ := t.ex
    have l1 := linear' (f := f) (s := s) (d := d) (e := x) (x := x) (fun y y1 _ => t1 y y1) (by omega) (by omega)
    have l2 := t1 (s + 1) (by omega)
    rw [show s + 1 - 1 = s by omega] at l2
    unfold pc pval
    simp only
    rw [l1, l2]
/-- pieces that start up to a number -/
def cnt (c : Cu) (e : Int) : Nat := (c.filter fun p => decide (p.1 ≤ e)).length
theorem cnt_mono {c : Cu} {e e' : Int} (h : e ≤ e') : cnt c e ≤ cnt c e' := by
  unfold cnt
  induction c with
  | nil => exact Nat.le_refl _
  | cons p c ih =>
    rw [List.filter_cons, List.filter_cons]
    by_cases a : p.1 ≤ e
    · rw [if_pos (by simpa using a), if_pos (by simp; omega)]
      simp only [List.length_cons]
      omega
    · rw [if_neg (by simpa using a)]
      split
      · simp only [List.length_cons]; omega
      · exact ih
theorem cnt_lt {c : Cu} {e e' : Int} (h : e < e') {p : Pi} (hp : p ∈ c) (h1 : e < p.1) (h2 : p.1 ≤ e') : cnt c e < cnt c e' := by
  unfold cnt
  induction c with
  | nil => cases hp
  | cons q c ih =>
    rw [List.filter_cons, List.filter_cons]
    rcases List.mem_cons.mp hp with rfl | hp
    · rw [if_neg (by simp; omega), if_pos (by simpa using h2)]
      have := cnt_mono (c := c) (show e ≤ e' by omega)
      unfold cnt at this
      simp only [List.length_cons]
      omega
    · have ih := ih hp
      by_cases a : q.1 ≤ e
      · rw [if_pos (by simpa using a), if_pos (by simp; omega)]
        simp only [List.length_cons]
        omega
      · rw [if_neg (by simpa using a)]
        split
        · simp only [List.length_cons]; omega
        · exact ih
theorem cnt_le (c : Cu) (e : Int) : cnt c e ≤ c.length := List.length_filter_le _ _
/-- inside a piece -/
theorem wv_in {c : Cu} (h : Cur c) {x : Int} {p : Pi} (hx : 0 ≤ x) (e : lastP c x = some p) {y : Int} (h1 : p.1 < y) (h2 : y ≤ x) : wv c y - wv c (y - 1) = p.2.2 := by
  obtain ⟨p1, p2⟩ := lastP_mem e
  have p0 := h.pos p p1
  have e1 : lastP c y = some p := lastP_of h p1 (by omega) fun q hq hqy => lastP_max h.inc e hq (by omega)
  have e2 : lastP c (y - 1) = some p := lastP_of h p1 (by omega) fun q hq hqy => lastP_max h.inc e hq (by omega)
  unfold wv
  rw [e1, e2]
  simp only [pval]
  rw [show y - p.1 = (y - 1 - p.1) + 1 by omega, Int.mul_add, Int.mul_one]
  omega
/-- the next start has fewer pieces ahead of it -/
theorem NextS.fewer {c : Cu} (h : Cur c) {s s' : Int} (n : NextS (wv c) s s') : cnt c (s' - 1) < cnt c (s - 1) := by
  have hl := n.lt
  obtain ⟨p, e⟩ := lastP_some h (show 0 ≤ s - 1 by omega)
  obtain ⟨p1, p2⟩ := lastP_mem e
  have p0 := h.pos p p1
  refine cnt_lt (by omega) p1 ?_ p2
  rcases n with ⟨n1, n2⟩ | ⟨n1, n2⟩
  · omega
  · by_cases q : p.1 = s - 1
    · omega
    · -- the run goes down to the piece's start
      have : s' ≤ p.1 := by
        refine Int.not_lt.mp fun z => ?_
        rcases n2.ne with y | y
        · omega
        · refine y ?_
          rw [wv_in h (show 0 ≤ s - 1 by omega) e (y := s') z (by omega)]
          have := wv_in h (show 0 ≤ s - 1 by omega) e (y := s - 1) (by omega) (by omega)
          rw [show s - 1 - 1 = s - 2 by omega] at this
          omega
      omega
theorem Back.len {c : Cu} (h : Cur c) {s : Int} {l : Cu} (b : Back (wv c) s l) : l.length ≤ cnt c (s - 1) + 1 := by
  induction b with
  | zero => simp
  | cons a n b ih =>
    have := n.fewer h
    simp only [List.length_cons]
    omega
end Tp
/-! Cu3: what the program makes of pieces is their normal form. -/
namespace Tp
open PySem
theorem bg_le {x y : Int} (h : bg y) (h0 : 0 ≤ x) (h1 : x ≤ y) : bg x := by unfold bg at h ⊢; omega
theorem diff_eq {c : Cu} (h : Cur c) {x : Int} (hx : 1 ≤ x) (hb : bg x) : t23_difference c x = .ok (wv c x - wv c (x - 1)) := by
  unfold t23_difference
  rw [worth_eq h (by omega) hb, worth_eq h (by omega) (bg_le hb (by omega) (by omega))]
  rfl
section
variable {c : Cu} (h : Cur c) {e d : Int} (he : 0 ≤ e) (hb : bg e)
include h he hb
theorem run_loop : ∀ (n : Nat) (u : Int), 0 ≤ u → u ≤ e → cnt c (u - 1) + 2 ≤ n → (∀ y, u < y → y ≤ e → wv c y - wv c (y - 1) = d) →
    ∃ s, RunS (wv c) e s d ∧ whT (fun (u1 : Int) => R.bind (if (decide (0 < u1)) = true then (R.bind (t23_difference c u1) fun (y4 : Int) => .ok (decide (y4 = d))) else (.ok false)) fun (y2 : Bool) => .ok y2) (fun (u1 : Int) => R.bind (t18_piece_at c (u1 - 1)) fun (y5 : (Int × Int × Int)) => .ok (if (decide (y5.2.2 = d)) = true then y5.1 else (u1 - 1))) n u = .ok s
  | 0, u, h0, h1, hn, hr => by omega
  | n + 1, u, h0, h1, hn, hr => by
    unfold whT
    by_cases hu : 0 < u
    · have ed := diff_eq h (x := u) (by omega) (bg_le hb h0 h1)
      rw [if_pos (by simpa using hu), ed]
      simp only [R.bind_ok]
      by_cases hd : wv c u - wv c (u - 1) = d
      · rw [if_pos (by simpa using hd)]
        obtain ⟨p, ep⟩ := lastP_some h (show 0 ≤ u - 1 by omega)
        obtain ⟨p1, p2⟩ := lastP_mem ep
        have p0 := h.pos p p1
        rw [piece_eq h (by omega) ep]
        simp only [R.bind_ok]
        have hin : ∀ y, p.1 < y → y ≤ u - 1 → wv c y - wv c (y - 1) = p.2.2 := fun y => wv_in h (by omega) ep
        by_cases hs : p.2.2 = d
        · rw [if_pos (by simpa using hs)]
          refine run_loop n p.1 p0 (by omega) ?_ fun y y1 y2 => ?_
          · have := cnt_lt (c := c) (e := p.1 - 1) (e' := u - 1) (by omega) p1 (by omega) p2
            omega
          · by_cases q : y ≤ u - 1
            · rw [hin y y1 q, hs]
            · by_cases q2 : y = u
              · subst q2; exact hd
              · exact hr y (by omega) y2
        · rw [if_neg (by simpa using hs)]
          have hr' : ∀ y, u - 1 < y → y ≤ e → wv c y - wv c (y - 1) = d := fun y y1 y2 => by
            by_cases q2 : y = u
            · subst q2; exact hd
            · exact hr y (by omega) y2
          by_cases q : p.1 = u - 1
          · refine run_loop n (u - 1) (by omega) (by omega) ?_ hr'
            have := cnt_lt (c := c) (e := u - 1 - 1) (e' := u - 1) (by omega) p1 (by omega) p2
            omega
          · -- the next turn stops
            refine ⟨u - 1, ⟨by omega, by omega, hr', .inr ?_⟩, ?_⟩
            · rw [hin (u - 1) (by omega) (by omega)]
              exact hs
            · obtain ⟨m, rfl⟩ : ∃ m, n = m + 1 := ⟨n - 1, by omega⟩
              unfold whT
              have ed2 := diff_eq h (x := u - 1) (by omega) (bg_le hb (by omega) (by omega))
              have nz : 0 < u - 1 := by omega
              rw [if_pos (by simpa using nz), ed2, hin (u - 1) (by omega) (by omega)]
              simp [hs]
      · rw [if_neg (by simpa using hd)]
        exact ⟨u, ⟨h0, h1, hr, .inr hd⟩, rfl⟩
    · rw [if_neg (by simpa using hu)]
      exact ⟨u, ⟨h0, h1, hr, .inl (by omega)⟩, rfl⟩
theorem run_start_eq : ∃ s, RunS (wv c) e s d ∧ t24_run_start c e d = .ok s := by
  obtain ⟨s, h1, h2⟩ := run_loop h (d := d) he hb 100000 e he (Int.le_refl _) (by have := cnt_le c (e - 1); have := h.len; omega) fun y y1 y2 => by omega
  refine ⟨s, h1, ?_⟩
  unfold t24_run_start
  rw [h2]
  rfl
end
def redB (c : Cu) (u4 : (Int × (List (Int × Int × Int)))) : R (Ctl (Int × List (Int × Int × Int)) (List (Int × Int × Int))) := R.bind (t19_worth c u4.1) fun (y5 : Int) => R.bind (t23_difference c (u4.1 + 1)) fun (y6 : Int) => R.guard (szP (α := (Int × Int × Int)) u4.2) <| if (decide (u4.1 = 0)) = true then (.ok (.rt (List.reverse (u4.2 ++ [(u4.1, y5, y6)])))) else (R.bind (if (decide ((u4.1 - 1) = 0)) = true then (.ok 0) else (R.bind (t23_difference c (u4.1 - 1)) fun (y11 : Int) => R.bind (t24_run_start c (u4.1 - 1) y11) fun (y12 : Int) => .ok y12)) fun (y9 : Int) => .ok (.nx (y9, (u4.2 ++ [(u4.1, y5, y6)]))))
theorem red_loop {c : Cu} (h : Cur c) : ∀ (n : Nat) (s : Int) (found : Cu), 0 ≤ s → bg (s + 1) → cnt c (s - 1) + 2 ≤ n → found.length + cnt c (s - 1) ≤ 2000 →
    ∃ l, Back (wv c) s l ∧ whC (fun _ => .ok true) (redB c) n (s, found) = .ok (.rt (found ++ l).reverse)
  | 0, s, found, h0, hb, hn, hf => by omega
  | n + 1, s, found, h0, hb, hn, hf => by
    have e1 := worth_eq h h0 (bg_le hb h0 (by omega))
    have e2 := diff_eq h (x := s + 1) (by omega) hb
    rw [show s + 1 - 1 = s by omega] at e2
    have sz : szP found = true := szP_lt (by omega)
    unfold whC
    simp only [R.bind_ok, if_true]
    by_cases hs : s = 0
    · subst hs
      have eb : redB c (0, found) = .ok (.rt (found ++ [pc (wv c) 0]).reverse) := by
        unfold redB
        simp only at e1 e2 ⊢
        rw [e1, R.bind_ok, e2, R.bind_ok, R.guard_of sz]
        rfl
      rw [eb]
      exact ⟨_, .zero, rfl⟩
    · have next : ∃ s', NextS (wv c) s s' ∧ (if (decide ((s - 1) = 0)) = true then (.ok 0) else (R.bind (t23_difference c (s - 1)) fun (y11 : Int) => R.bind (t24_run_start c (s - 1) y11) fun (y12 : Int) => .ok y12)) = R.ok s' := by
        by_cases h1 : s - 1 = 0
        · rw [if_pos (by simpa using h1)]
          exact ⟨0, .inl ⟨by omega, rfl⟩, rfl⟩
        · rw [if_neg (by simpa using h1)]
          have ed := diff_eq h (x := s - 1) (by omega) (bg_le hb (by omega) (by omega))
          rw [show s - 1 - 1 = s - 2 by omega] at ed
          obtain ⟨s', r1, r2⟩ := run_start_eq h (e := s - 1) (d := wv c (s - 1) - wv c (s - 2)) (by omega) (bg_le hb (by omega) (by omega))
          refine ⟨s', .inr ⟨by omega, r1⟩, ?_⟩
          rw [ed, R.bind_ok, r2]
          rfl
      obtain ⟨s', nx, en⟩ := next
      have lt := nx.lt
      have fw := nx.fewer h
      have eb : redB c (s, found) = .ok (.nx (s', found ++ [pc (wv c) s])) := by
        unfold redB
        simp only
        rw [e1, R.bind_ok, e2, R.bind_ok, R.guard_of sz, if_neg (by simpa using hs), en, R.bind_ok]
        rfl
      rw [eb]
      simp only [R.bind_ok]
      obtain ⟨l, l1, l2⟩ := red_loop h n s' (found ++ [pc (wv c) s]) (by omega) (bg_le hb (by omega) (by omega)) (by omega) (by rw [List.length_append]; simp only [List.length_cons, List.length_nil]; omega)
      refine ⟨pc (wv c) s :: l, .cons (by omega) nx l1, ?_⟩
      rw [l2, List.append_assoc]
      rfl
theorem getLast_max {c : Cu} (hi : c.Pairwise fun a b => a.1 < b.1) {q : Pi} (h : c.getLast? = some q) : q ∈ c ∧ ∀ p ∈ c, p.1 ≤ q.1 := by
  obtain ⟨ys, rfl⟩ := List.getLast?_eq_some_iff.mp h
  refine ⟨by simp, fun p hp => ?_⟩
  rcases List.mem_append.mp hp with hp | hp
  · have := (List.pairwise_append.mp hi).2.2 p hp q (List.mem_singleton.mpr rfl)
    omega
  · rw [List.mem_singleton] at hp
    subst hp
    exact Int.le_refl _
theorem reduced_eq {c : Cu} (h : Cur c) : ∃ l, NF (wv c) l ∧ l.length ≤ c.length ∧ t25_reduced c = .ok l ∧ ∀ p ∈ l, ∃ q ∈ c, p.1 ≤ q.1 := by
  obtain ⟨q, hq⟩ : ∃ q, c.getLast? = some q := by
    obtain ⟨p, r, rfl, _⟩ := h.head
    exact ⟨_, List.getLast?_eq_some_getLast (by simp)⟩
  obtain ⟨q1, q2⟩ := getLast_max h.inc hq
  have q0 := h.pos q q1
  have qb := (h.bd q q1).1
  obtain ⟨s, r1, r2⟩ := run_start_eq h (e := q.1) (d := q.2.2) q0 (bs_bg qb)
  have far : ∀ y, q.1 < y → wv c y - wv c (y - 1) = q.2.2 := fun y hy => by
    have e : lastP c y = some q := lastP_of h q1 (by omega) fun p hp _ => q2 p hp
    exact wv_in h (by omega) e hy (Int.le_refl _)
  have tl : Tail (wv c) s := ⟨r1.lo, q.2.2, fun y hy => by
    by_cases z : y ≤ q.1
    · exact r1.eq y hy z
    · exact far y (by omega), r1.ne⟩
  have len := h.len
  have hk : cnt c (s - 1) + 1 ≤ c.length := by
    have := r1.le
    have l1 := cnt_lt (c := c) (e := s - 1) (e' := q.1) (by omega) q1 (by omega) (Int.le_refl _)
    have := cnt_le c q.1
    omega
  obtain ⟨l, b, e⟩ := red_loop h 100000 s [] r1.lo (by have := r1.le; have := r1.lo; unfold bs at qb; unfold bg; omega) (by omega) (by simp; omega)
  have bl := b.len h
  obtain ⟨i1, _⟩ := b.starts
  refine ⟨l.reverse, ⟨s, tl, by rw [List.reverse_reverse]; exact b⟩, by rw [List.length_reverse]; omega, ?_, fun p hp => ⟨q, q1, ?_⟩⟩
  · unfold t25_reduced
    rw [ixR_last, hq]
    simp only [R.of_some, R.bind_ok]
    rw [r2, R.bind_ok]
    show R.ctl (whC (fun _ => .ok true) (redB c) 100000 (s, [])) _ _ = _
    rw [e, List.nil_append]
    rfl
  · have := i1 p (List.mem_reverse.mp hp)
    have := r1.le
    omega
/-- a normal form with short numbers is a curve -/
theorem finished_eq {c l : Cu} (e : t25_reduced c = .ok l) (hs : Short l) : t26_finished c = .ok l := by
  unfold t26_finished
  rw [e, R.bind_ok, is_curve_eq hs]
  rfl
end Tp
/-! Dr2: the curves that the laws draw. -/
namespace Tp
open PySem
theorem slope_all {t : Nat} {s : Sc} (hs : Sok t s) (ht : t < 2 ^ 35) : (t9_law_slope s).All fun y => y.1.natAbs ≤ 10 ^ 6 ∧ Sok (t + 2) y.2 := by
  unfold t9_law_slope
  refine (draw_all hs (size := 1000000)).draw fun y ⟨y1, y2, y3⟩ => ?_
  refine (choice_all y3).draw fun z ⟨z1, z2⟩ => ?_
  refine ⟨_, rfl, ?_, z2⟩
  simp only [List.mem_cons, List.not_mem_nil, or_false] at z1
  omega
/-- a drawn curve of k pieces as it grows -/
structure DcI (k : Nat) (c : Cu) (st : Int) : Prop where
  len : c.length = k
  inc : c.Pairwise fun a b => a.1 < b.1
  head : ∀ p, c.head? = some p → p.1 = 0
  zero : k = 0 → st = 0
  lt : ∀ p ∈ c, p.1 < st
  gap : ∀ p, c.getLast? = some p → st - p.1 ≤ 10 ^ 9
  lo : ∀ p ∈ c, 0 ≤ p.1
  first : ∀ p ∈ c, p.2.1.natAbs ≤ k * 10 ^ 16
  slope : ∀ p ∈ c, p.2.2.natAbs ≤ 10 ^ 6
  st : 0 ≤ st ∧ st ≤ k * 10 ^ 9
theorem DcI.nil : DcI 0 [] 0 := ⟨rfl, .nil, fun p h => (by cases h), fun _ => rfl, fun p h => (by cases h), fun p h => (by cases h), fun p h => (by cases h), fun p h => (by cases h), fun p h => (by cases h), ⟨Int.le_refl _, Int.le_refl _⟩⟩
theorem DcI.snoc {k : Nat} {c : Cu} {st : Int} (h : DcI k c st) {f s d : Int} (hf : f.natAbs ≤ (k + 1) * 10 ^ 16) (hs : s.natAbs ≤ 10 ^ 6) (hd : 0 ≤ d ∧ d < 10 ^ 9) : DcI (k + 1) (c ++ [(st, f, s)]) (st + 1 + d) := by
  have hst := h.st
  refine ⟨by simp [h.len], ?_, fun p hp => ?_, fun z => by omega, fun p hp => ?_, fun p hp => ?_, fun p hp => ?_, fun p hp => ?_, fun p hp => ?_, by omega⟩
  · rw [List.pairwise_append]
    refine ⟨h.inc, List.pairwise_singleton _ _, fun a ha b hb => ?_⟩
    rw [List.mem_singleton] at hb
    subst hb
    exact h.lt a ha
  · cases c with
    | nil =>
      cases hp
      exact h.zero (by have := h.len; simpa using this.symm)
    | cons a c => exact h.head p hp
  · rcases List.mem_append.mp hp with hp | hp
    · have := h.lt p hp
      omega
    · rw [List.mem_singleton] at hp
      subst hp
      show st < st + 1 + d
      omega
  · rw [List.getLast?_append] at hp
    cases hp
    show st + 1 + d - st ≤ _
    omega
  · rcases List.mem_append.mp hp with hp | hp
    · exact h.lo p hp
    · rw [List.mem_singleton] at hp
      subst hp
      exact hst.1
  · rcases List.mem_append.mp hp with hp | hp
    · exact Nat.le_trans (h.first p hp) (Nat.mul_le_mul_right _ (Nat.le_succ k))
    · rw [List.mem_singleton] at hp
      subst hp
      exact hf
  · rcases List.mem_append.mp hp with hp | hp
    · exact h.slope p hp
    · rw [List.mem_singleton] at hp
      subst hp
      exact hs
theorem DcI.cur {k : Nat} {c : Cu} {st : Int} (h : DcI k c st) (h1 : 1 ≤ k) (h2 : k ≤ 1000) : Cur c := by
  have hl := h.len
  have hst := h.st
  refine ⟨?_, h.inc, by omega, fun p hp => ?_⟩
  · cases c with
    | nil => simp at hl; omega
    | cons p r => exact ⟨p, r, rfl, h.head p rfl⟩
  · have a1 := h.lo p hp
    have a2 := h.lt p hp
    have a3 := h.slope p hp
    have a4 : p.2.1.natAbs ≤ 1000 * 10 ^ 16 := Nat.le_trans (h.first p hp) (Nat.mul_le_mul_right _ h2)
    unfold bs
    omega
/-- a curve as the laws draw it -/
structure Dc (k : Nat) (c : Cu) : Prop where
  len : c.length = k
  cur : Cur c
  hi : ∀ p ∈ c, p.1 ≤ k * 10 ^ 9
  first : ∀ p ∈ c, p.2.1.natAbs ≤ k * 10 ^ 16
  slope : ∀ p ∈ c, p.2.2.natAbs ≤ 10 ^ 6
theorem DcI.dc {k : Nat} {c : Cu} {st : Int} (h : DcI k c st) (h1 : 1 ≤ k) (h2 : k ≤ 1000) : Dc k c := ⟨h.len, h.cur h1 h2, fun p hp => by have := h.lt p hp; have := h.st; omega, h.first, h.slope⟩
theorem Dc.short {k : Nat} {c : Cu} (h : Dc k c) (h2 : k ≤ 24) : Short c := by
  refine ⟨h.cur, by rw [h.len]; exact h2, fun p hp => ?_⟩
  have a1 := h.cur.pos p hp
  have a2 := h.hi p hp
  have a3 := h.slope p hp
  have a4 : p.2.1.natAbs ≤ 24 * 10 ^ 16 := Nat.le_trans (h.first p hp) (Nat.mul_le_mul_right _ h2)
  unfold shortI
  omega
theorem Dc.val {k : Nat} {c : Cu} (h : Dc k c) (hk : k ≤ 100) {x : Int} (h0 : 0 ≤ x) {X : Nat} (hx : x ≤ X) : (wv c x).natAbs ≤ 10 ^ 18 + 10 ^ 6 * X := by
  obtain ⟨p, e⟩ := lastP_some h.cur h0
  obtain ⟨p1, p2⟩ := lastP_mem e
  have a1 := h.cur.pos p p1
  have a3 := h.slope p p1
  have a4 : p.2.1.natAbs ≤ 100 * 10 ^ 16 := Nat.le_trans (h.first p p1) (Nat.mul_le_mul_right _ hk)
  have w : wv c x = pval p x := by unfold wv; rw [e]
  rw [w]
  unfold pval
  have m : (p.2.2 * (x - p.1)).natAbs ≤ 10 ^ 6 * X := by
    rw [Int.natAbs_mul]
    exact Nat.mul_le_mul a3 (by omega)
  omega
theorem curve_all {t : Nat} {s : Sc} (hs : Sok t s) (ht : t < 2 ^ 30) {k : Nat} (h1 : 1 ≤ k) (h2 : k ≤ 1000) : (t10_law_curve s (k : Int)).All fun y => Dc k y.1 ∧ Sok (t + 8 * k + 1) y.2 := by
  unfold t10_law_curve
  refine (choice_all hs).draw fun w ⟨w1, w2⟩ => ?_
  have hw : 1 ≤ w.1 ∧ w.1 ≤ 10 ^ 9 := by
    simp only [List.mem_cons, List.not_mem_nil, or_false] at w1
    omega
  have g : rgOk 0 (k : Int) = true := decide_eq_true ⟨by omega, by omega, by omega, by omega⟩
  refine .guard g ?_
  have hl : (rngI 0 (k : Int)).length = k := by rw [rngI_len]; omega
  obtain ⟨z, e, hz⟩ := forT_inv (I := fun n (u : Sc × Cu × Int) => n ≤ k → Sok (t + 1 + 8 * n) u.1 ∧ DcI n u.2.1 u.2.2) (l := rngI 0 (k : Int)) (n := 0) (s := (w.2, ([] : Cu), (0 : Int))) (b := (fun (a4 : Int) (u3 : (Sc × (List (Int × Int × Int)) × Int)) => R.draw (t9_law_slope u3.1) fun (y5 : Int × Sc) => R.draw (t5_law_draw y5.2 41) fun (y6 : Int × Sc) => R.bind (R.bind (if (decide (0 < a4)) = true then (R.draw (t5_law_draw y6.2 2) fun (y10 : Int × Sc) => .ok ((decide (y10.1 = 0)), y10.2)) else (.ok (false, y6.2))) fun (y8 : (Bool × Sc)) => if y8.1 = true then (R.draw (t8_law_at u3.2.1 u3.2.2) fun (y12 : Int) => R.draw (t6_choice (α := Int) y8.2 ([0, 0, 1, (0 - 7)] : (List Int))) fun (y13 : Int × Sc) => R.bind (R.of (ixR u3.2.1 (-1))) fun (y14 : (Int × Int × Int)) => R.draw (t6_choice (α := Int) y13.2 ([y14.2.2, y5.1] : (List Int))) fun (y16 : Int × Sc) => .ok ((y12 + y13.1), y16.1, y16.2)) else (.ok ((y6.1 - 20), y5.1, y8.2))) fun (u7 : (Int × Int × Sc)) => R.guard (szP (α := (Int × Int × Int)) u3.2.1) <| R.draw (t5_law_draw u7.2.2 w.1) fun (y18 : Int × Sc) => .ok (y18.2, (u3.2.1 ++ [(u3.2.2, u7.1, u7.2.1)]), ((u3.2.2 + 1) + y18.1))))
    (fun _ => ⟨w2, DcI.nil⟩) fun i a u hi hI => by
      have il : i < k := by
        have := (List.getElem?_eq_some_iff.mp hi).1
        rw [hl] at this
        exact this
      rw [Nat.zero_add] at hI ⊢
      obtain ⟨i1, i2⟩ := hI (by omega)
      have ilen := i2.len
      have ai : a = (i : Int) := by
        unfold rngI at hi
        rw [List.getElem?_map] at hi
        obtain ⟨j, j1, j2⟩ := Option.map_eq_some_iff.mp hi
        rw [List.getElem?_range (by omega)] at j1
        cases j1
        omega
      have all : (R.draw (t9_law_slope u.1) fun (y5 : Int × Sc) => R.draw (t5_law_draw y5.2 41) fun (y6 : Int × Sc) => R.bind (R.bind (if (decide (0 < a)) = true then (R.draw (t5_law_draw y6.2 2) fun (y10 : Int × Sc) => .ok ((decide (y10.1 = 0)), y10.2)) else (.ok (false, y6.2))) fun (y8 : (Bool × Sc)) => if y8.1 = true then (R.draw (t8_law_at u.2.1 u.2.2) fun (y12 : Int) => R.draw (t6_choice (α := Int) y8.2 ([0, 0, 1, (0 - 7)] : (List Int))) fun (y13 : Int × Sc) => R.bind (R.of (ixR u.2.1 (-1))) fun (y14 : (Int × Int × Int)) => R.draw (t6_choice (α := Int) y13.2 ([y14.2.2, y5.1] : (List Int))) fun (y16 : Int × Sc) => .ok ((y12 + y13.1), y16.1, y16.2)) else (.ok ((y6.1 - 20), y5.1, y8.2))) fun (u7 : (Int × Int × Sc)) => R.guard (szP (α := (Int × Int × Int)) u.2.1) <| R.draw (t5_law_draw u7.2.2 w.1) fun (y18 : Int × Sc) => .ok (y18.2, (u.2.1 ++ [(u.2.2, u7.1, u7.2.1)]), ((u.2.2 + 1) + y18.1))).All fun (v : Sc × Cu × Int) => Sok (t + 1 + 8 * (i + 1)) v.1 ∧ DcI (i + 1) v.2.1 v.2.2 := by
        refine (slope_all i1 (by omega)).draw fun y5 ⟨a1, a2⟩ => ?_
        refine (draw_all a2 (size := 41)).draw fun y6 ⟨b1, b2, b3⟩ => ?_
        have hq : (if (decide (0 < a)) = true then (R.draw (t5_law_draw y6.2 2) fun (y10 : Int × Sc) => R.ok ((decide (y10.1 = 0)), y10.2)) else (R.ok (false, y6.2))).All fun (q : Bool × Sc) => (q.1 = true → 0 < i) ∧ Sok (t + 1 + 8 * i + 4) q.2 := by
          by_cases ha : 0 < a
          · rw [if_pos (by simpa using ha)]
            refine (draw_all b3 (size := 2)).draw fun y10 ⟨c1, c2, c3⟩ => ?_
            exact ⟨_, rfl, fun _ => by omega, c3.mono (by omega)⟩
          · rw [if_neg (by simpa using ha)]
            exact ⟨_, rfl, fun z => (by cases z), b3.mono (by omega)⟩
        refine R.All.bind (Q := fun (v : Int × Int × Sc) => v.1.natAbs ≤ (i + 1) * 10 ^ 16 ∧ v.2.1.natAbs ≤ 10 ^ 6 ∧ Sok (t + 1 + 8 * i + 6) v.2.2) (hq.bind fun q ⟨q1, q2⟩ => ?_) fun v ⟨v1, v2, v3⟩ => ?_
        · by_cases hb : q.1 = true
          · rw [if_pos hb]
            have ip := q1 hb
            have hcur := i2.cur ip (by omega)
            obtain ⟨p, hp⟩ : ∃ p, u.2.1.getLast? = some p := by
              obtain ⟨p, r, ec, _⟩ := hcur.head
              rw [ec]
              exact ⟨_, List.getLast?_eq_some_getLast (by simp)⟩
            obtain ⟨pm, pmax⟩ := getLast_max i2.inc hp
            have plt := i2.lt p pm
            have pgap := i2.gap p hp
            have st := i2.st
            have elast : lastP u.2.1 u.2.2 = some p := lastP_of hcur pm (by omega) fun z hz _ => pmax z hz
            have ew : wv u.2.1 u.2.2 = pval p u.2.2 := by unfold wv; rw [elast]
            rw [at_eq hcur st.1 (by unfold bg; omega), R.draw_ok]
            refine (choice_all q2).draw fun y13 ⟨d1, d2⟩ => ?_
            refine .of (a := p) (by rw [ixR_last, hp]) ?_
            refine (choice_all d2).draw fun y16 ⟨f1, f2⟩ => ?_
            refine ⟨_, rfl, ?_, ?_, f2.mono (by omega)⟩
            · show (wv u.2.1 u.2.2 + y13.1).natAbs ≤ _
              rw [ew]
              unfold pval
              have m : (p.2.2 * (u.2.2 - p.1)).natAbs ≤ 10 ^ 6 * 10 ^ 9 := by
                rw [Int.natAbs_mul]
                exact Nat.mul_le_mul (i2.slope p pm) (by omega)
              have := i2.first p pm
              simp only [List.mem_cons, List.not_mem_nil, or_false] at d1
              omega
            · have := i2.slope p pm
              simp only [List.mem_cons, List.not_mem_nil, or_false] at f1
              rcases f1 with f1 | f1 <;> rw [f1] <;> assumption
          · rw [if_neg hb]
            exact ⟨_, rfl, by show (y6.1 - 20).natAbs ≤ _; omega, a1, q2.mono (by omega)⟩
        · refine .guard (szP_lt (by omega)) ?_
          refine (draw_all v3 (size := w.1)).draw fun y18 ⟨g1, g2, g3⟩ => ?_
          exact ⟨_, rfl, g3.mono (by omega), i2.snoc v1 v2 (by omega)⟩
      obtain ⟨v, e, hv⟩ := all
      exact ⟨v, e, fun _ => hv⟩
  rw [e, R.bind_ok]
  rw [Nat.zero_add, hl] at hz
  obtain ⟨z1, z2⟩ := hz (by omega)
  exact ⟨_, rfl, z2.dc h1 h2, z1.mono (by omega)⟩
end Tp
/-! Dr3: searches with a state; the curve turned round. -/
namespace Tp
open PySem
theorem forC_inv {α σ ρ : Type} {b : α → σ → R (Ctl σ ρ)} {I : Nat → σ → Prop} : ∀ {l : List α} {n : Nat} {s : σ}, I n s → (∀ i a s, l[i]? = some a → I (n + i) s → ∃ s', b a s = .ok (.nx s') ∧ I (n + i + 1) s') → ∃ s', forC b l s = .ok (.nx s') ∧ I (n + l.length) s'
  | [], n, s, h, _ => ⟨s, rfl, h⟩
  | a :: l, n, s, h, hb => by
    obtain ⟨s1, h1, h2⟩ := hb 0 a s rfl h
    obtain ⟨s2, h3, h4⟩ := forC_inv (l := l) (n := n + 1) (s := s1) h2 fun i x sx hx hi => by
      have := hb (i + 1) x sx (by simpa using hx) (by rw [show n + (i + 1) = n + 1 + i by omega]; exact hi)
      rw [show n + (i + 1) = n + 1 + i by omega] at this
      exact this
    refine ⟨s2, ?_, by rw [List.length_cons, show n + (l.length + 1) = n + 1 + l.length by omega]; exact h4⟩
    unfold forC
    rw [h1]
    exact h3
/-- the state is a source: k draws a turn, m turns -/
theorem forC_src {α ρ : Type} {b : α → Sc → R (Ctl Sc ρ)} {t k : Nat} {l : List α} {s : Sc} (hs : Sok t s) (hb : ∀ i a s, l[i]? = some a → Sok (t + k * i) s → (b a s).All fun o => ∃ s', o = .nx s' ∧ Sok (t + k * i + k) s') : ∃ s', forC b l s = .ok (.nx s') ∧ Sok (t + k * l.length) s' := by
  obtain ⟨s', h1, h2⟩ := forC_inv (I := fun n s => Sok (t + k * n) s) (l := l) (n := 0) (s := s) (by simpa using hs) fun i a s hi hI => by
    rw [Nat.zero_add] at hI ⊢
    obtain ⟨o, e, s', rfl, h⟩ := hb i a s hi hI
    exact ⟨s', e, by rw [show t + k * (i + 1) = t + k * i + k by rw [Nat.mul_add, Nat.mul_one]; omega]; exact h⟩
  exact ⟨s', h1, by simpa using h2⟩
def ngc (c : Cu) : Cu := c.map fun p => (p.1, 0 - p.2.1, 0 - p.2.2)
theorem ngc_lastP (c : Cu) (x : Int) : lastP (ngc c) x = (lastP c x).map fun p => (p.1, 0 - p.2.1, 0 - p.2.2) := by
  unfold lastP ngc
  rw [List.filter_map, List.getLast?_map]
  rfl
theorem ngc_wv (c : Cu) (x : Int) : wv (ngc c) x = - wv c x := by
  unfold wv
  rw [ngc_lastP]
  cases lastP c x with
  | none => rfl
  | some p =>
    show (0 - p.2.1) + (0 - p.2.2) * (x - p.1) = -(p.2.1 + p.2.2 * (x - p.1))
    rw [Int.sub_mul, Int.zero_mul]
    omega
theorem ngc_cur {c : Cu} (h : Cur c) : Cur (ngc c) := by
  obtain ⟨p, r, rfl, h0⟩ := h.head
  refine ⟨⟨_, _, rfl, h0⟩, ?_, by unfold ngc; rw [List.length_map]; exact h.len, fun q hq => ?_⟩
  · unfold ngc
    rw [List.pairwise_map]
    exact h.inc
  · obtain ⟨p', hp, rfl⟩ := List.mem_map.mp hq
    have := h.bd p' hp
    unfold bs at this ⊢
    simp only
    omega
theorem any_all {t : Nat} {s : Sc} (hs : Sok t s) (ht : t < 2 ^ 20) : (t11_law_any_curve s).All fun y => (∃ k : Nat, 1 ≤ k ∧ k ≤ 5 ∧ Dc k y.1) ∧ Sok (t + 50) y.2 := by
  unfold t11_law_any_curve
  refine (draw_all hs (size := 5)).draw fun y ⟨y1, y2, y3⟩ => ?_
  have e : 1 + y.1 = ((1 + y.1).toNat : Int) := by omega
  rw [e]
  refine (curve_all y3 (by omega) (k := (1 + y.1).toNat) (by omega) (by omega)).draw fun z ⟨z1, z2⟩ => ?_
  exact ⟨_, rfl, ⟨_, by omega, by omega, z1⟩, z2.mono (by omega)⟩
theorem Dc.sm {k : Nat} {c : Cu} (h : Dc k c) (hk : k ≤ 100) {x : Int} (h0 : 0 ≤ x) (hb : bg x) : sm (wv c x) = true := by
  have := h.val hk h0 (X := 10 ^ 100) (by unfold bg at hb; omega)
  exact sm_big (by omega)
theorem law_cells {z : Int} (ns : List Int) : True := trivial
end Tp
/-! St1: the stretches on which two curves are straight. -/
namespace Tp
open PySem
def starts (a b : Cu) : List Int := sortI ((a ++ b).map (·.1))
theorem starts_mem {a b : Cu} {x : Int} : x ∈ starts a b ↔ (∃ p ∈ a, p.1 = x) ∨ ∃ p ∈ b, p.1 = x := by
  unfold starts
  rw [sortI_mem, List.map_append, List.mem_append, List.mem_map, List.mem_map]
/-- each with the next one -/
def adj : List Int → List (Int × Option Int)
  | [] => []
  | [s] => [(s, none)]
  | s :: t :: r => (s, some t) :: adj (t :: r)
theorem adj_zip : ∀ l : List Int, List.zip l (((l.drop 1).map some) ++ [none]) = adj l
  | [] => rfl
  | [s] => rfl
  | s :: t :: r => by
    show (s, some t) :: List.zip (t :: r) ((((t :: r).drop 1).map some) ++ [none]) = _
    rw [adj_zip (t :: r)]
    rfl
theorem adj_len : ∀ l : List Int, (adj l).length = l.length
  | [] => rfl
  | [s] => rfl
  | s :: t :: r => by
    show (adj (t :: r)).length + 1 = _
    rw [adj_len (t :: r)]
    rfl
def stL (a b : Cu) : List (Int × Option Int) := adj (starts a b)
theorem starts_len (a b : Cu) : (starts a b).length ≤ a.length + b.length := by
  unfold starts
  refine Nat.le_trans (sortI_len _) ?_
  rw [List.length_map, List.length_append]
  exact Nat.le_refl _
theorem stretches_eq {a b : Cu} (ha : a.length ≤ 1000) (hb : b.length ≤ 1000) : t31_stretches a b = .ok (stL a b) := by
  have l : (sortI (List.map Prod.fst (a ++ b))).length ≤ a.length + b.length := starts_len a b
  have z : List.zip (sortI (List.map Prod.fst (a ++ b))) (((sortI (List.map Prod.fst (a ++ b))).drop 1).map some ++ [none]) = stL a b := adj_zip (starts a b)
  unfold t31_stretches
  rw [R.guard_of (szA_le (by omega)), R.guard_of (show fewOk (a ++ b) = true from decide_eq_true (by rw [List.length_append]; omega))]
  simp only [mapR_ok, R.bind_ok]
  rw [R.guard_of (srOk_lt (by rw [List.length_map, List.length_append]; omega)), R.guard_of (szA_le (by simp only [List.length_map, List.length_drop, List.length_cons, List.length_nil]; omega)), z]
/-- a stretch: from s on, up to e -/
structure Stret (a b : Cu) (s : Int) (e : Option Int) : Prop where
  lo : 0 ≤ s
  at_ : s ∈ starts a b
  hi : ∀ h, e = some h → s < h ∧ h ∈ starts a b
  no : ∀ x ∈ starts a b, ¬ (s < x ∧ ∀ h, e = some h → x < h)
theorem adj_mem : ∀ {l : List Int}, l.Pairwise (· < ·) → ∀ {p : Int × Option Int}, p ∈ adj l → p.1 ∈ l ∧ (∀ h, p.2 = some h → p.1 < h ∧ h ∈ l) ∧ ∀ x ∈ l, ¬ (p.1 < x ∧ ∀ h, p.2 = some h → x < h)
  | [], _, p, h => by cases h
  | [s], _, p, h => by
    have h : p ∈ [(s, none)] := h
    rw [List.mem_singleton] at h
    subst h
    exact ⟨by simp, fun h e => (by cases e), fun x hx => by rw [List.mem_singleton] at hx; subst hx; omega⟩
  | s :: t :: r, hp, p, h => by
    have h : p ∈ (s, some t) :: adj (t :: r) := h
    obtain ⟨h1, h2⟩ := List.pairwise_cons.mp hp
    rcases List.mem_cons.mp h with rfl | h
    · refine ⟨by simp, fun k e => ?_, fun x hx => ?_⟩
      · cases e
        exact ⟨h1 t (by simp), by simp⟩
      · rintro ⟨x1, x2⟩
        have x2 := x2 t rfl
        rcases List.mem_cons.mp hx with rfl | hx
        · exact absurd x1 (by simp)
        · rcases List.mem_cons.mp hx with rfl | hx
          · exact absurd x2 (by simp)
          · have := (List.pairwise_cons.mp h2).1 x hx
            omega
    · obtain ⟨a1, a2, a3⟩ := adj_mem h2 h
      refine ⟨List.mem_cons_of_mem _ a1, fun k e => ⟨(a2 k e).1, List.mem_cons_of_mem _ (a2 k e).2⟩, fun x hx => ?_⟩
      rcases List.mem_cons.mp hx with rfl | hx
      · have := h1 p.1 a1
        rintro ⟨x1, _⟩
        omega
      · exact a3 x hx
theorem stL_mem {a b : Cu} (ha : Cur a) (hb : Cur b) {p : Int × Option Int} (h : p ∈ stL a b) : Stret a b p.1 p.2 := by
  obtain ⟨h1, h2, h3⟩ := adj_mem (sortI_inc _) h
  refine ⟨?_, h1, h2, h3⟩
  have h1 : p.1 ∈ starts a b := h1
  rw [starts_mem] at h1
  rcases h1 with ⟨q, hq, e⟩ | ⟨q, hq, e⟩
  · have := ha.pos q hq; omega
  · have := hb.pos q hq; omega
/-- x lies on it -/
def On (s : Int) (e : Option Int) (x : Int) : Prop := s ≤ x ∧ ∀ h, e = some h → x < h
theorem adj_cover : ∀ {l : List Int} {x : Int}, (∃ s ∈ l.head?, s ≤ x) → ∃ p ∈ adj l, On p.1 p.2 x
  | [], x, h => by obtain ⟨s, h, _⟩ := h; cases h
  | [s], x, h => by
    obtain ⟨s', h, k⟩ := h
    cases h
    exact ⟨(s, none), List.mem_cons_self, k, fun h e => by cases e⟩
  | s :: t :: r, x, h => by
    obtain ⟨s', h, k⟩ := h
    cases h
    by_cases q : x < t
    · exact ⟨(s, some t), List.mem_cons_self, k, fun h e => by cases e; exact q⟩
    · obtain ⟨p, h1, h2⟩ := adj_cover (l := t :: r) (x := x) ⟨t, rfl, by omega⟩
      exact ⟨p, List.mem_cons_of_mem _ h1, h2⟩
theorem starts_head {a b : Cu} (ha : Cur a) (hb : Cur b) : (starts a b).head? = some 0 := by
  have h0 : 0 ∈ starts a b := by
    obtain ⟨p, r, rfl, e⟩ := ha.head
    exact starts_mem.mpr (.inl ⟨p, List.mem_cons_self, e⟩)
  have nn : ∀ x ∈ starts a b, 0 ≤ x := fun x hx => by
    rcases starts_mem.mp hx with ⟨p, hp, rfl⟩ | ⟨p, hp, rfl⟩
    · exact ha.pos p hp
    · exact hb.pos p hp
  have inc : (starts a b).Pairwise (· < ·) := sortI_inc _
  cases e : starts a b with
  | nil => rw [e] at h0; cases h0
  | cons s r =>
    rw [e] at h0 nn inc
    have := nn s List.mem_cons_self
    rcases List.mem_cons.mp h0 with h | h
    · rw [← h]; rfl
    · have := (List.pairwise_cons.mp inc).1 0 h
      omega
theorem stL_cover {a b : Cu} (ha : Cur a) (hb : Cur b) {x : Int} (hx : 0 ≤ x) : ∃ p ∈ stL a b, On p.1 p.2 x := adj_cover ⟨0, by rw [starts_head ha hb]; rfl, hx⟩
/-- the stretches go up -/
theorem adj_order : ∀ {l : List Int}, l.Pairwise (· < ·) → (adj l).Pairwise fun p q => p.1 < q.1 ∧ ∃ h, p.2 = some h ∧ h ≤ q.1
  | [], _ => .nil
  | [s], _ => List.pairwise_singleton _ _
  | s :: t :: r, hp => by
    obtain ⟨h1, h2⟩ := List.pairwise_cons.mp hp
    refine List.pairwise_cons.mpr ⟨fun q hq => ?_, adj_order h2⟩
    obtain ⟨a1, _, _⟩ := adj_mem h2 hq
    refine ⟨h1 _ a1, t, rfl, ?_⟩
    rcases List.mem_cons.mp a1 with e | a1
    · omega
    · have := (List.pairwise_cons.mp h2).1 _ a1
      omega
theorem stL_order (a b : Cu) : (stL a b).Pairwise fun p q => p.1 < q.1 ∧ ∃ h, p.2 = some h ∧ h ≤ q.1 := adj_order (sortI_inc _)
/-- both are straight on it -/
theorem Stret.sameA {a b : Cu} {s : Int} {e : Option Int} (ha : Cur a) (h : Stret a b s e) {x : Int} (hx : On s e x) : lastP a x = lastP a s := lastP_same ha h.lo hx.1 fun p hp z => h.no p.1 (starts_mem.mpr (.inl ⟨p, hp, rfl⟩)) ⟨z.1, fun k e => by have := hx.2 k e; omega⟩
theorem Stret.sameB {a b : Cu} {s : Int} {e : Option Int} (hb : Cur b) (h : Stret a b s e) {x : Int} (hx : On s e x) : lastP b x = lastP b s := lastP_same hb h.lo hx.1 fun p hp z => h.no p.1 (starts_mem.mpr (.inr ⟨p, hp, rfl⟩)) ⟨z.1, fun k e => by have := hx.2 k e; omega⟩
theorem wv_same {c : Cu} (hc : Cur c) {s x : Int} (hs : 0 ≤ s) (h : lastP c x = lastP c s) : wv c x = wv c s + sl c s * (x - s) := by
  obtain ⟨p, e⟩ := lastP_some hc hs
  unfold wv sl
  rw [h, e]
  show p.2.1 + p.2.2 * (x - p.1) = p.2.1 + p.2.2 * (s - p.1) + p.2.2 * (x - s)
  rw [show x - p.1 = (s - p.1) + (x - s) by omega, Int.mul_add]
  omega
theorem Stret.wvA {a b : Cu} {s : Int} {e : Option Int} (ha : Cur a) (h : Stret a b s e) {x : Int} (hx : On s e x) : wv a x = wv a s + sl a s * (x - s) := wv_same ha h.lo (h.sameA ha hx)
theorem Stret.wvB {a b : Cu} {s : Int} {e : Option Int} (hb : Cur b) (h : Stret a b s e) {x : Int} (hx : On s e x) : wv b x = wv b s + sl b s * (x - s) := wv_same hb h.lo (h.sameB hb hx)
/-- how much greater the first value is -/
def gap (a b : Cu) (x : Int) : Int := wv a x - wv b x
def mor (a b : Cu) (x : Int) : Int := sl a x - sl b x
theorem Stret.gap_eq {a b : Cu} {s : Int} {e : Option Int} (ha : Cur a) (hb : Cur b) (h : Stret a b s e) {x : Int} (hx : On s e x) : gap a b x = gap a b s + mor a b s * (x - s) := by
  unfold gap mor
  rw [h.wvA ha hx, h.wvB hb hx, Int.sub_mul]
  omega
theorem Stret.bg {a b : Cu} {s : Int} {e : Option Int} (ha : Cur a) (hb : Cur b) (h : Stret a b s e) : bg s := by
  rcases starts_mem.mp h.at_ with ⟨p, hp, rfl⟩ | ⟨p, hp, rfl⟩
  · exact (ha.bdg p hp).1
  · exact (hb.bdg p hp).1
theorem piece_sl {c : Cu} (h : Cur c) {x : Int} (hx : 0 ≤ x) : ∃ p, t18_piece_at c x = .ok p ∧ p.2.2 = sl c x ∧ p ∈ c ∧ lastP c x = some p := by
  obtain ⟨p, e⟩ := lastP_some h hx
  exact ⟨p, piece_eq h hx e, by unfold sl; rw [e], (lastP_mem e).1, e⟩
theorem apart_eq {a b : Cu} (ha : Cur a) (hb : Cur b) {x : Int} (hx : 0 ≤ x) (hg : Tp.bg x) : t33_apart a b x = .ok (gap a b x, mor a b x) := by
  obtain ⟨p, e1, e2, _⟩ := piece_sl ha hx
  obtain ⟨q, f1, f2, _⟩ := piece_sl hb hx
  unfold t33_apart gap mor
  rw [worth_eq ha hx hg, R.bind_ok, worth_eq hb hx hg, R.bind_ok, e1, R.bind_ok, f1, R.bind_ok, e2, f2]
def hasMore (s : Int) (e : Option Int) (m : Int) : Bool := match e with | none => true | some h => decide (s + m < h)
theorem has_more_eq (s : Int) (e : Option Int) (m : Int) : t32_has_more s e m = .ok (hasMore s e m) := by
  unfold t32_has_more hasMore
  cases e <;> rfl
theorem hasMore_on {s : Int} {e : Option Int} {m : Int} (h : 0 ≤ m) : hasMore s e m = true ↔ On s e (s + m) := by
  unfold hasMore On
  cases e with
  | none => simp; omega
  | some h' => simp; omega
theorem forC_cg2 {α β σ ρ : Type} {b : α → σ → R (Ctl σ ρ)} {b' : β → σ → R (Ctl σ ρ)} {f : α → β} : ∀ {l : List α} {s : σ}, (∀ a ∈ l, ∀ s, b a s = b' (f a) s) → forC b l s = forC b' (l.map f) s
  | [], _, _ => rfl
  | a :: l, s, h => by
    rw [List.map_cons]
    unfold forC
    rw [h a List.mem_cons_self]
    cases b' (f a) s with
    | ok o =>
      cases o with
      | nx s' => exact forC_cg2 fun x hx => h x (List.mem_cons_of_mem _ hx)
      | bk s' => rfl
      | rt x => rfl
    | exc c x => rfl
    | bad => rfl
/-- halving: the first number at which it is so -/
theorem bisect {G : Int → Int} {f : Int → R Int} {lo0 hi0 r : Int} (hf : ∀ x, lo0 ≤ x → x ≤ hi0 → f x = .ok (G x)) (hm : ∀ x, lo0 ≤ x → x ≤ hi0 → (0 < G x ↔ r ≤ x)) : ∀ (n fuel : Nat) (lo hi : Int), lo0 ≤ lo → hi ≤ hi0 → lo < r → r ≤ hi → hi - lo ≤ 2 ^ n → n < fuel →
    whT (fun (u12 : (Int × Int)) => .ok (decide (1 < (u12.2 - u12.1)))) (fun (u12 : (Int × Int)) => R.bind (R.bind (f (Int.fdiv (u12.1 + u12.2) 2)) fun (y14 : Int) => if (decide (0 < y14)) = true then (.ok ((Int.fdiv (u12.1 + u12.2) 2), u12.1)) else (.ok (u12.2, (Int.fdiv (u12.1 + u12.2) 2)))) fun (u13 : (Int × Int)) => .ok (u13.2, u13.1)) fuel (lo, hi) = .ok (r - 1, r)
  | n, 0, lo, hi, _, _, _, _, _, h => by omega
  | n, fuel + 1, lo, hi, h1, h2, h3, h4, h5, h6 => by
    unfold whT
    by_cases q : 1 < hi - lo
    · have hmid : Int.fdiv (lo + hi) 2 = (lo + hi) / 2 := Int.fdiv_eq_ediv_of_nonneg _ (by omega)
      cases n with
      | zero => omega
      | succ n =>
        have p2 : (2 : Int) ^ (n + 1) = 2 ^ n * 2 := Int.pow_succ 2 n
        simp only [q, decide_true, R.bind_ok, if_true, hmid]
        rw [hf _ (by omega) (by omega)]
        simp only [R.bind_ok]
        have hh := hm ((lo + hi) / 2) (by omega) (by omega)
        by_cases z : 0 < G ((lo + hi) / 2)
        · simp only [z, decide_true, if_true, R.bind_ok]
          exact bisect hf hm n fuel lo _ h1 (by omega) h3 (hh.mp z) (by omega) (by omega)
        · simp only [z, decide_false, Bool.false_eq_true, if_false, R.bind_ok]
          have : ¬ r ≤ (lo + hi) / 2 := fun y => z (hh.mpr y)
          exact bisect hf hm n fuel _ hi (by omega) h2 (by omega) h4 (by omega) (by omega)
    · simp only [q, decide_false, R.bind_ok, Bool.false_eq_true, if_false]
      rw [show lo = r - 1 by omega, show hi = r by omega]
/-- a curve of moderate numbers -/
structure Wc (c : Cu) : Prop where
  short : Short c
  hi : ∀ p ∈ c, p.1 ≤ 10 ^ 12
  first : ∀ p ∈ c, p.2.1.natAbs ≤ 10 ^ 18
  slope : ∀ p ∈ c, p.2.2.natAbs ≤ 10 ^ 9
theorem Wc.val {c : Cu} (h : Wc c) {x : Int} (h0 : 0 ≤ x) {X : Nat} (hx : x ≤ X) : (wv c x).natAbs ≤ 10 ^ 18 + 10 ^ 9 * X := by
  obtain ⟨p, e⟩ := lastP_some h.short.cur h0
  obtain ⟨p1, p2⟩ := lastP_mem e
  have a1 := h.short.cur.pos p p1
  have a3 := h.slope p p1
  have a4 := h.first p p1
  have w : wv c x = pval p x := by unfold wv; rw [e]
  rw [w]
  unfold pval
  have m : (p.2.2 * (x - p.1)).natAbs ≤ 10 ^ 9 * X := by
    rw [Int.natAbs_mul]
    exact Nat.mul_le_mul a3 (by omega)
  omega
theorem Wc.sl {c : Cu} (h : Wc c) (x : Int) : (Tp.sl c x).natAbs ≤ 10 ^ 9 := by
  unfold Tp.sl
  cases e : lastP c x with
  | none => simp
  | some p => exact h.slope p (lastP_mem e).1
theorem Dc.wc {k : Nat} {c : Cu} (h : Dc k c) (hk : k ≤ 24) : Wc c := ⟨h.short hk, fun p hp => by have := h.hi p hp; omega, fun p hp => Nat.le_trans (h.first p hp) (Nat.le_trans (Nat.mul_le_mul_right _ hk) (by decide)), fun p hp => Nat.le_trans (h.slope p hp) (by decide)⟩
end Tp
/-! K14P: where the most is owed back: the plain part. -/
namespace Tp
/-- a function that is straight but at some numbers takes its greatest value at one of these or at an end -/
theorem slide (h : Int → Int) (P : Int → Prop) (hf : ∀ y, ¬ P y → h (y + 1) - h y = h y - h (y - 1)) : ∀ (n : Nat) (a b : Int), b - a = n → ∀ y, a ≤ y → y ≤ b → (∀ z, a < z → z < b → ¬ P z) → h y ≤ h a ∨ h y ≤ h b := by
  intro n
  -- one step is the same all over
  have st : ∀ (k : Nat) (a b : Int), (∀ z, a < z → z < b → ¬ P z) → ∀ j : Nat, (j : Int) ≤ b - a → h (a + j) = h a + j * (h (a + 1) - h a) := by
    intro k a b hn j
    induction j with
    | zero => intro _; simp
    | succ j ih =>
      intro hj
      have ih := ih (by omega)
      by_cases hj0 : j = 0
      · subst hj0; simp; omega
      · have e := hn (a + j) (by omega) (by omega)
        have e1 := hf (a + j) e
        -- the step ahead
        have key : ∀ m : Nat, 1 ≤ m → (m : Int) < b - a → h (a + m + 1) - h (a + m) = h (a + 1) - h a := by
          intro m
          induction m with
          | zero => intro h0; omega
          | succ m im =>
            intro _ hm
            have e2 := hf (a + (m + 1 : Nat)) (hn _ (by omega) (by omega))
            by_cases m0 : m = 0
            · subst m0
              simp at e2 ⊢
              try rw [show a + 1 - 1 = a by omega] at e2
              exact e2
            · have := im (by omega) (by omega)
              rw [show a + ((m + 1 : Nat) : Int) - 1 = a + m by omega] at e2
              rw [show a + (m : Int) + 1 = a + ((m + 1 : Nat) : Int) by omega] at this
              omega
        have := key j (by omega) (by omega)
        rw [show a + ((j + 1 : Nat) : Int) = a + j + 1 by omega]
        have e3 : ((j + 1 : Nat) : Int) * (h (a + 1) - h a) = j * (h (a + 1) - h a) + (h (a + 1) - h a) := by
          rw [Int.natCast_add, Int.add_mul]; simp
        omega
  intro a b hab y h1 h2 hn
  have e1 := st 0 a b hn (y - a).toNat (by omega)
  have e2 := st 0 a b hn n (by omega)
  rw [show a + (((y - a).toNat : Nat) : Int) = y by omega] at e1
  rw [show a + (n : Int) = b by omega] at e2
  by_cases hd : h (a + 1) - h a ≤ 0
  · left
    have : (((y - a).toNat : Nat) : Int) * (h (a + 1) - h a) ≤ 0 := Int.mul_nonpos_of_nonneg_of_nonpos (by omega) hd
    omega
  · right
    have : (((y - a).toNat : Nat) : Int) * (h (a + 1) - h a) ≤ (n : Int) * (h (a + 1) - h a) := Int.mul_le_mul_of_nonneg_right (by omega) (by omega)
    omega
theorem best (h : Int → Int) (P : Int → Prop) (hf : ∀ y, ¬ P y → h (y + 1) - h y = h y - h (y - 1)) (a b : Int) {y : Int} (h1 : a ≤ y) (h2 : y ≤ b) : ∃ z, a ≤ z ∧ z ≤ b ∧ (z = a ∨ z = b ∨ P z) ∧ h y ≤ h z := by
  -- the nearest such numbers on both sides
  have lo : ∀ k : Nat, y - a = k → ∃ l, a ≤ l ∧ l ≤ y ∧ (l = a ∨ P l) ∧ ∀ z, l < z → z < y → ¬ P z := by
    intro k
    induction k generalizing a with
    | zero => intro e; exact ⟨a, by omega, by omega, .inl rfl, fun z h3 h4 => by omega⟩
    | succ k ih =>
      intro e
      obtain ⟨l, l1, l2, l3, l4⟩ := ih (a + 1) (by omega) (by omega)
      rcases l3 with l3 | l3
      · subst l3
        by_cases hp : P (a + 1)
        · by_cases hy : a + 1 = y
          · exact ⟨a, by omega, by omega, .inl rfl, fun z h3 h4 => by omega⟩
          · exact ⟨a + 1, by omega, by omega, .inr hp, l4⟩
        · refine ⟨a, by omega, by omega, .inl rfl, fun z h3 h4 => ?_⟩
          by_cases hz : z = a + 1
          · subst hz; exact hp
          · exact l4 z (by omega) h4
      · exact ⟨l, by omega, l2, .inr l3, l4⟩
  have hi : ∀ k : Nat, b - y = k → ∃ u, y ≤ u ∧ u ≤ b ∧ (u = b ∨ P u) ∧ ∀ z, y < z → z < u → ¬ P z := by
    intro k
    induction k generalizing b with
    | zero => intro e; exact ⟨b, by omega, by omega, .inl rfl, fun z h3 h4 => by omega⟩
    | succ k ih =>
      intro e
      obtain ⟨l, l1, l2, l3, l4⟩ := ih (b - 1) (by omega) (by omega)
      rcases l3 with l3 | l3
      · subst l3
        by_cases hp : P (b - 1)
        · by_cases hy : b - 1 = y
          · exact ⟨b, by omega, by omega, .inl rfl, fun z h3 h4 => by omega⟩
          · exact ⟨b - 1, by omega, by omega, .inr hp, l4⟩
        · refine ⟨b, by omega, by omega, .inl rfl, fun z h3 h4 => ?_⟩
          by_cases hz : z = b - 1
          · subst hz; exact hp
          · exact l4 z h3 (by omega)
      · exact ⟨l, l1, by omega, .inr l3, l4⟩
  by_cases py : P y
  · exact ⟨y, h1, h2, .inr (.inr py), Int.le_refl _⟩
  obtain ⟨l, l1, l2, l3, l4⟩ := lo (y - a).toNat (by omega)
  obtain ⟨u, u1, u2, u3, u4⟩ := hi (b - y).toNat (by omega)
  have hn : ∀ z, l < z → z < u → ¬ P z := fun z h3 h4 => by
    by_cases q : z < y
    · exact l4 z h3 q
    · by_cases q2 : z = y
      · subst q2; exact py
      · exact u4 z (by omega) h4
  rcases slide h P hf (u - l).toNat l u (by omega) y l2 u1 hn with q | q
  · exact ⟨l, l1, by omega, l3.elim .inl fun z => .inr (.inr z), q⟩
  · exact ⟨u, by omega, u2, u3.elim (fun z => .inr (.inl z)) fun z => .inr (.inr z), q⟩
/-- a pair (x, u) at which a curve is asked: x from low to high, u at most back below it -/
def Vp (low high back : Int) (x u : Int) : Prop := low ≤ x ∧ x ≤ high ∧ 0 ≤ u ∧ u ≤ x ∧ x - u ≤ back
/-- the pairs that the program asks; E: the ends of pieces -/
def Cand (E : Int → Prop) (low high back : Int) (x u : Int) : Prop :=
  ((x = low ∨ x = high ∨ (E x ∧ low < x ∧ x < high)) ∧ ((E u ∧ u ≤ x ∧ x - u ≤ back) ∨ u = x ∨ u = (if back < x then x - back else 0))) ∨ (E u ∧ (x = u ∨ x = u + back) ∧ low ≤ x ∧ x ≤ high)
theorem cand_valid {E : Int → Prop} (hE : ∀ y, E y → 0 ≤ y) {low high back x u : Int} (hl : 0 ≤ low) (hh : low ≤ high) (hb : 0 ≤ back) (h : Cand E low high back x u) : Vp low high back x u := by
  unfold Cand at h
  unfold Vp
  rcases h with ⟨h1, h2⟩ | ⟨h1, h2, h3, h4⟩
  · have hx : low ≤ x ∧ x ≤ high := by rcases h1 with h1 | h1 | h1 <;> omega
    rcases h2 with ⟨h2, h3, h4⟩ | h2 | h2
    · have := hE u h2
      omega
    · omega
    · split at h2 <;> omega
  · have := hE u h1
    rcases h2 with h2 | h2 <;> omega
theorem cand_best {E : Int → Prop} (hE : ∀ y, E y → 0 ≤ y) (hE0 : E 0) (f : Int → Int) (hf : ∀ y, 0 < y → ¬ E y → f (y + 1) - f y = f y - f (y - 1)) {p q : Int} (hp : 0 ≤ p) (hq : 0 ≤ q) {low high back x u : Int} (hl : 0 ≤ low) (hb : 0 ≤ back) (h : Vp low high back x u) :
    ∃ x' u', Cand E low high back x' u' ∧ p * f x - q * f u ≤ p * f x' - q * f u' := by
  obtain ⟨h1, h2, h3, h4, h5⟩ := h
  -- a straight function times a number
  have lin : ∀ (a b : Int) (P : Int → Prop), (∀ y, ¬ P y → 0 < y ∧ ¬ E y) → ∀ y, ¬ P y → (a * f (y + 1) + b) - (a * f y + b) = (a * f y + b) - (a * f (y - 1) + b) := fun a b P hP y hy => by
    have e := hf y (hP y hy).1 (hP y hy).2
    have e1 : a * f (y + 1) - a * f y = a * f y - a * f (y - 1) := by
      rw [← Int.mul_sub, ← Int.mul_sub, e]
    omega
  -- u first
  let P : Int → Prop := fun y => y ≤ 0 ∨ E y
  have hP : ∀ y, ¬ P y → 0 < y ∧ ¬ E y := fun y hy => ⟨by have : ¬ y ≤ 0 := fun z => hy (.inl z); omega, fun z => hy (.inr z)⟩
  obtain ⟨v, v1, v2, v3, v4⟩ := best (fun y => (-q) * f y + p * f x) P (lin (-q) (p * f x) P hP) (if back < x then x - back else 0) x (y := u) (by split <;> omega) h4
  have v4' : p * f x - q * f u ≤ p * f x - q * f v := by
    have : (-q) * f u + p * f x ≤ (-q) * f v + p * f x := v4
    rw [Int.neg_mul, Int.neg_mul] at this
    omega
  have v0 : 0 ≤ v := by split at v1 <;> omega
  have vb : x - v ≤ back := by split at v1 <;> omega
  -- with an end below: x next
  have byE : ∀ v, E v → 0 ≤ v → v ≤ x → x - v ≤ back → ∃ x' u', Cand E low high back x' u' ∧ p * f x - q * f v ≤ p * f x' - q * f u' := fun v ev v0 v2 vb => by
    obtain ⟨w, w1, w2, w3, w4⟩ := best (fun y => p * f y + (- (q * f v))) P (lin p _ P hP) (if v ≤ low then low else v) (if v + back ≤ high then v + back else high) (y := x) (by split <;> omega) (by split <;> omega)
    have w4' : p * f x - q * f v ≤ p * f w - q * f v := by
      have : p * f x + (- (q * f v)) ≤ p * f w + (- (q * f v)) := w4
      omega
    have wl : low ≤ w := by split at w1 <;> omega
    have wv : v ≤ w := by split at w1 <;> omega
    have wh : w ≤ high := by split at w2 <;> omega
    have wb : w ≤ v + back := by split at w2 <;> omega
    refine ⟨w, v, ?_, w4'⟩
    unfold Cand
    by_cases a1 : w = low
    · exact .inl ⟨.inl a1, .inl ⟨ev, wv, by omega⟩⟩
    by_cases a2 : w = high
    · exact .inl ⟨.inr (.inl a2), .inl ⟨ev, wv, by omega⟩⟩
    rcases w3 with w3 | w3 | w3
    · split at w3
      · exact absurd w3 a1
      · exact .inr ⟨ev, .inl w3, wl, wh⟩
    · split at w3
      · exact .inr ⟨ev, .inr w3, wl, wh⟩
      · exact absurd w3 a2
    · rcases w3 with w3 | w3
      · have : w = 0 := by omega
        exact absurd (show w = low by omega) a1
      · exact .inl ⟨.inr (.inr ⟨w3, by omega, by omega⟩), .inl ⟨ev, wv, by omega⟩⟩
  -- along a fixed distance r: x next
  have byD : ∀ r, 0 ≤ r → r ≤ back → r ≤ x → (r = 0 ∨ r = back) → ∃ x' u', Cand E low high back x' u' ∧ p * f x - q * f (x - r) ≤ p * f x' - q * f u' := fun r r0 rb rx rr => by
    let P2 : Int → Prop := fun y => y ≤ 0 ∨ E y ∨ y - r ≤ 0 ∨ E (y - r)
    obtain ⟨w, w1, w2, w3, w4⟩ := best (fun y => p * f y - q * f (y - r)) P2 (fun y hy => by
      have e1 := hf y (by have : ¬ y ≤ 0 := fun z => hy (.inl z); omega) fun z => hy (.inr (.inl z))
      have e2 := hf (y - r) (by have : ¬ y - r ≤ 0 := fun z => hy (.inr (.inr (.inl z))); omega) fun z => hy (.inr (.inr (.inr z)))
      have e3 : p * f (y + 1) - p * f y = p * f y - p * f (y - 1) := by rw [← Int.mul_sub, ← Int.mul_sub, e1]
      have e4 : q * f (y - r + 1) - q * f (y - r) = q * f (y - r) - q * f (y - r - 1) := by rw [← Int.mul_sub, ← Int.mul_sub, e2]
      rw [show y + 1 - r = y - r + 1 by omega, show y - 1 - r = y - r - 1 by omega]
      omega) (if r ≤ low then low else r) high (y := x) (by split <;> omega) h2
    have wl : low ≤ w := by split at w1 <;> omega
    have wr : r ≤ w := by split at w1 <;> omega
    refine ⟨w, w - r, ?_, w4⟩
    unfold Cand
    have hu : w - r = w ∨ w - r = (if back < w then w - back else 0) := by
      rcases rr with rr | rr
      · exact .inl (by omega)
      · right; split <;> omega
    by_cases a1 : w = low
    · exact .inl ⟨.inl a1, .inr hu⟩
    by_cases a2 : w = high
    · exact .inl ⟨.inr (.inl a2), .inr hu⟩
    have viaE : E (w - r) → (E (w - r) ∧ (w = w - r ∨ w = w - r + back) ∧ low ≤ w ∧ w ≤ high) := fun z => ⟨z, by rcases rr with rr | rr <;> omega, wl, w2⟩
    have at0 : w - r = 0 → E (w - r) := fun z => by rw [z]; exact hE0
    rcases w3 with w3 | w3 | w3
    · split at w3
      · exact absurd w3 a1
      · exact .inr (viaE (at0 (by omega)))
    · exact absurd w3 a2
    · rcases w3 with w3 | w3 | w3 | w3
      · exact .inr (viaE (at0 (by omega)))
      · exact .inl ⟨.inr (.inr ⟨w3, by omega, by omega⟩), .inr hu⟩
      · exact .inr (viaE (at0 (by omega)))
      · exact .inr (viaE w3)
  have fin : ∃ x' u', Cand E low high back x' u' ∧ p * f x - q * f v ≤ p * f x' - q * f u' := by
    rcases v3 with v3 | v3 | v3
    · by_cases hx : back < x
      · rw [if_pos hx] at v3
        have := byD back hb (by omega) (by omega) (.inr rfl)
        rw [v3]
        exact this
      · rw [if_neg hx] at v3
        exact byE v (by rw [v3]; exact hE0) v0 v2 vb
    · have := byD 0 (by omega) hb (by omega) (.inl rfl)
      rw [Int.sub_zero] at this
      rw [v3]
      exact this
    · rcases v3 with v3 | v3
      · exact byE v (by rw [show v = 0 by omega]; exact hE0) v0 v2 vb
      · exact byE v v3 v0 v2 vb
  obtain ⟨x', u', c, k⟩ := fin
  exact ⟨x', u', c, Int.le_trans v4' k⟩
end Tp
/-! Cn1: the ends of pieces; the greatest value and the first number that has it. -/
namespace Tp
open PySem
def corn (c : Cu) : List Int := sortI (c.map (·.1) ++ ((c.map (·.1)).filter fun y => decide (0 < y)).map fun y => y - 1)
theorem corn_mem {c : Cu} {y : Int} : y ∈ corn c ↔ (∃ p ∈ c, p.1 = y) ∨ ∃ p ∈ c, 0 < p.1 ∧ p.1 - 1 = y := by
  unfold corn
  rw [sortI_mem, List.mem_append]
  simp [List.mem_map, List.mem_filter, and_assoc]
theorem corn_len (c : Cu) : (corn c).length ≤ 2 * c.length := by
  unfold corn
  refine Nat.le_trans (sortI_len _) ?_
  rw [List.length_append, List.length_map, List.length_map]
  have := List.length_filter_le (fun y => decide (0 < y)) (c.map (·.1))
  rw [List.length_map] at this
  omega
theorem corners_eq {c : Cu} (h : c.length ≤ 1000) : t75_corners c = .ok (corn c) := by
  have hl : ((c.map (·.1)).filter fun y => decide (0 < y)).length ≤ c.length := by
    have := List.length_filter_le (fun y => decide (0 < y)) (c.map (·.1))
    rw [List.length_map] at this
    exact this
  unfold t75_corners
  rw [R.guard_of (szL_le (by omega))]
  simp only [mapR_ok, R.bind_ok]
  rw [R.guard_of (szL_le (by rw [List.length_map]; omega))]
  simp only [filR_ok, R.bind_ok]
  have fl : ∀ q : Int → Bool, (List.filter q (List.map Prod.fst c)).length ≤ c.length := fun q => Nat.le_trans (List.length_filter_le _ _) (Nat.le_of_eq (List.length_map _))
  have f0 := fl fun a => decide (0 < a)
  rw [R.guard_of (szA_le (by rw [List.length_map, List.length_map]; omega)), R.guard_of (srOk_lt (by rw [List.length_append, List.length_map, List.length_map]; omega))]
  rfl
/-! ### the first of the greatest -/
def stepB (v : Int → Int) (s : Option (Int × Int)) (x : Int) : Option (Int × Int) := match s with | none => some (v x, x) | some p => if p.1 < v x then some (v x, x) else some p
/-- x beats y -/
def Bt (v : Int → Int) (x y : Int) : Prop := v y < v x ∨ (v y = v x ∧ x ≤ y)
theorem Bt.trans {v : Int → Int} {x y z : Int} (h : Bt v x y) (k : Bt v y z) : Bt v x z := by unfold Bt at *; omega
theorem Bt.anti {v : Int → Int} {x y : Int} (h : Bt v x y) (k : Bt v y x) : x = y := by unfold Bt at *; omega
theorem Bt.refl {v : Int → Int} {x : Int} : Bt v x x := .inr ⟨rfl, Int.le_refl _⟩
theorem stepB_fold (v : Int → Int) : ∀ (l : List Int) (x : Int), (x :: l).Pairwise (· < ·) → ∃ z ∈ x :: l, l.foldl (stepB v) (some (v x, x)) = some (v z, z) ∧ ∀ y ∈ x :: l, Bt v z y
  | [], x, _ => ⟨x, by simp, rfl, fun y hy => by rw [List.mem_singleton] at hy; subst hy; exact .refl⟩
  | a :: l, x, h => by
    obtain ⟨h1, h2⟩ := List.pairwise_cons.mp h
    have xa := h1 a List.mem_cons_self
    have h3 := List.pairwise_cons.mp h2
    rw [List.foldl_cons]
    by_cases q : v x < v a
    · have e : stepB v (some (v x, x)) a = some (v a, a) := by unfold stepB; simp [q]
      rw [e]
      obtain ⟨z, z1, z2, z3⟩ := stepB_fold v l a h2
      refine ⟨z, List.mem_cons_of_mem _ z1, z2, fun y hy => ?_⟩
      rcases List.mem_cons.mp hy with rfl | hy
      · exact (z3 a List.mem_cons_self).trans (.inl q)
      · exact z3 y hy
    · have e : stepB v (some (v x, x)) a = some (v x, x) := by unfold stepB; simp [q]
      rw [e]
      obtain ⟨z, z1, z2, z3⟩ := stepB_fold v l x (List.pairwise_cons.mpr ⟨fun y hy => h1 y (List.mem_cons_of_mem _ hy), h3.2⟩)
      have zx := z3 x List.mem_cons_self
      refine ⟨z, ?_, z2, fun y hy => ?_⟩
      · rcases List.mem_cons.mp z1 with rfl | z1
        · exact List.mem_cons_self
        · exact List.mem_cons_of_mem _ (List.mem_cons_of_mem _ z1)
      · rcases List.mem_cons.mp hy with rfl | hy
        · exact zx
        · rcases List.mem_cons.mp hy with rfl | hy
          · refine zx.trans ?_
            unfold Bt
            omega
          · exact z3 y (List.mem_cons_of_mem _ hy)
theorem bestB {v : Int → Int} {l : List Int} (h : l.Pairwise (· < ·)) (ne : l ≠ []) : ∃ z ∈ l, l.foldl (stepB v) none = some (v z, z) ∧ ∀ y ∈ l, Bt v z y := by
  cases l with
  | nil => exact absurd rfl ne
  | cons x l => exact stepB_fold v l x h
/-- a straight function's best number, the first of them -/
theorem bestF {h : Int → Int} {P : Int → Prop} (hf : ∀ y, ¬ P y → h (y + 1) - h y = h y - h (y - 1)) {a b y : Int} (h1 : a ≤ y) (h2 : y ≤ b) : ∃ z, a ≤ z ∧ z ≤ b ∧ (z = a ∨ z = b ∨ P z) ∧ Bt h z y := by
  obtain ⟨z, z1, z2, z3, z4⟩ := best (fun u => (b - a + 1) * h u - u) P (fun u hu => by
    have e := hf u hu
    have e1 : (b - a + 1) * h (u + 1) - (b - a + 1) * h u = (b - a + 1) * h u - (b - a + 1) * h (u - 1) := by rw [← Int.mul_sub, ← Int.mul_sub, e]
    omega) a b h1 h2
  refine ⟨z, z1, z2, z3, ?_⟩
  have z4 : (b - a + 1) * h y - y ≤ (b - a + 1) * h z - z := z4
  unfold Bt
  by_cases q : h y < h z
  · exact .inl q
  by_cases q2 : h y = h z
  · rw [q2] at z4
    exact .inr ⟨q2, by omega⟩
  · exfalso
    have q3 : 1 ≤ h y - h z := by omega
    have m : (b - a + 1) * 1 ≤ (b - a + 1) * (h y - h z) := Int.mul_le_mul_of_nonneg_left q3 (by omega)
    rw [Int.mul_sub] at m
    omega
/-- a number of a range -/
def Rg (low : Int) (high : Option Int) (x : Int) : Prop := low ≤ x ∧ ∀ h, high = some h → x ≤ h
/-- one of the numbers asked beats any number of the range -/
theorem range_best {c : Cu} (hc : Cur c) (g : Int → Int) (sg : Int) (hg : ∀ x, 0 ≤ x → g x = sg * wv c x) {low : Int} (hl : 0 ≤ low) {high : Option Int} (hh : ∀ h, high = some h → low ≤ h) (hlast : high = none → ∀ p, c.getLast? = some p → sg * p.2.2 ≤ 0) {x : Int} (hx : Rg low high x) :
    ∃ z, Rg low high z ∧ (z = low ∨ (high = some z) ∨ z ∈ corn c) ∧ Bt g z x := by
  -- straight but at the corners
  have fl : ∀ y, ¬ (y ≤ 0 ∨ y ∈ corn c) → g (y + 1) - g y = g y - g (y - 1) := fun y hy => by
    have h0 : 0 < y := by have : ¬ y ≤ 0 := fun z => hy (.inl z); omega
    have hn : y ∉ corn c := fun z => hy (.inr z)
    rw [corn_mem] at hn
    have := wv_flat hc h0 (fun p hp e => hn (.inl ⟨p, hp, e⟩)) (fun p hp e => hn (.inr ⟨p, hp, by omega, by omega⟩))
    rw [hg _ (by omega), hg _ (by omega), hg _ (by omega), ← Int.mul_sub, ← Int.mul_sub, this]
  have fin : ∀ b, low ≤ b → Rg low high b → (b = low ∨ high = some b ∨ b ∈ corn c) → ∀ y, low ≤ y → y ≤ b → ∃ z, Rg low high z ∧ (z = low ∨ (high = some z) ∨ z ∈ corn c) ∧ Bt g z y := fun b hb rb cb y y1 y2 => by
    obtain ⟨z, z1, z2, z3, z4⟩ := bestF fl y1 y2
    refine ⟨z, ⟨z1, fun h e => by have := rb.2 h e; omega⟩, ?_, z4⟩
    rcases z3 with z3 | z3 | z3 | z3
    · exact .inl z3
    · subst z3; exact cb
    · exact .inl (by omega)
    · exact .inr (.inr z3)
  obtain ⟨x1, x2⟩ := hx
  cases high with
  | some h => exact fin h (hh h rfl) ⟨hh h rfl, fun k e => by cases e; exact Int.le_refl _⟩ (.inr (.inl rfl)) x x1 (x2 h rfl)
  | none =>
    obtain ⟨q, hq⟩ : ∃ q, c.getLast? = some q := by
      obtain ⟨p, r, rfl, _⟩ := hc.head
      exact ⟨_, List.getLast?_eq_some_getLast (by simp)⟩
    obtain ⟨q1, q2⟩ := getLast_max hc.inc hq
    have hs := hlast rfl q hq
    have far : ∀ y, q.1 ≤ y → wv c y = pval q y := fun y hy => wv_of hc q1 hy fun p hp _ => q2 p hp
    by_cases a : x ≤ q.1
    · exact fin q.1 (by omega) ⟨by omega, fun h e => by cases e⟩ (.inr (.inr (corn_mem.mpr (.inl ⟨q, q1, rfl⟩)))) x x1 a
    · -- beyond the last start
      have mono : ∀ u, q.1 ≤ u → 0 ≤ u → u ≤ x → Bt g u x := fun u u1 u0 u2 => by
        have e1 := hg u u0
        have e2 := hg x (by omega)
        rw [far u u1] at e1
        rw [far x (by omega)] at e2
        have : g x = g u + sg * q.2.2 * (x - u) := by
          rw [e1, e2]
          unfold pval
          rw [show x - q.1 = (u - q.1) + (x - u) by omega, Int.mul_add q.2.2, ← Int.add_assoc, Int.mul_add sg, Int.mul_assoc]
        have m : sg * q.2.2 * (x - u) ≤ 0 := Int.mul_nonpos_of_nonpos_of_nonneg hs (by omega)
        unfold Bt
        omega
      by_cases b : low ≤ q.1
      · exact ⟨q.1, ⟨b, fun h e => by cases e⟩, .inr (.inr (corn_mem.mpr (.inl ⟨q, q1, rfl⟩))), mono q.1 (Int.le_refl _) (by omega) (by omega)⟩
      · exact ⟨low, ⟨Int.le_refl _, fun h e => by cases e⟩, .inl rfl, mono low (by omega) hl x1⟩
/-- two lists of numbers of the range with one that beats any -/
theorem best_same {g : Int → Int} {l l' : List Int} {z z' : Int} (zl : z ∈ l) (zb : ∀ y ∈ l, Bt g z y) (zl' : z' ∈ l') (zb' : ∀ y ∈ l', Bt g z' y) (d : ∀ x ∈ l', ∃ y ∈ l, Bt g y x) (d' : ∀ x ∈ l, ∃ y ∈ l', Bt g y x) : z = z' := by
  obtain ⟨y, y1, y2⟩ := d z' zl'
  obtain ⟨y', y1', y2'⟩ := d' z zl
  exact ((zb y y1).trans y2).anti ((zb' y' y1').trans y2')
end Tp
/-! K11P: splits: at most one part is no corner; all tuples of corners. -/
namespace Tp
open PySem
def fsum (f : Int → Int) (l : List Int) : Int := (l.map f).sum
theorem fsum_cons (f : Int → Int) (a : Int) (l : List Int) : fsum f (a :: l) = f a + fsum f l := rfl
theorem fsum_app (f : Int → Int) (l m : List Int) : fsum f (l ++ m) = fsum f l + fsum f m := by unfold fsum; rw [List.map_append, List.sum_append]
theorem isum_app (l m : List Int) : (l ++ m).sum = l.sum + m.sum := List.sum_append
theorem sum_perm {l m : List Int} (h : l.Perm m) : l.sum = m.sum := by
  induction h with
  | nil => rfl
  | cons x _ ih => simp [ih]
  | swap x y l => simp only [List.sum_cons]; omega
  | trans _ _ h1 h2 => omega
theorem fsum_perm (f : Int → Int) {l m : List Int} (h : l.Perm m) : fsum f l = fsum f m := sum_perm (h.map f)
theorem sum_nn {l : List Int} (h : ∀ x ∈ l, 0 ≤ x) : 0 ≤ l.sum := by
  induction l with
  | nil => simp
  | cons a l ih =>
    rw [List.sum_cons]
    have := h a List.mem_cons_self
    have := ih fun x hx => h x (List.mem_cons_of_mem _ hx)
    omega
/-- two numbers of a sum: one becomes a corner -/
theorem pair_best {E : Int → Prop} (hE0 : E 0) {f : Int → Int} (hf : ∀ y, 0 < y → ¬ E y → f (y + 1) - f y = f y - f (y - 1)) {x y : Int} (hx : 0 ≤ x) (hy : 0 ≤ y) : ∃ e z, E e ∧ 0 ≤ e ∧ 0 ≤ z ∧ e + z = x + y ∧ f x + f y ≤ f e + f z := by
  obtain ⟨t, t1, t2, t3, t4⟩ := best (fun t => f t + f (x + y - t)) (fun t => t ≤ 0 ∨ E t ∨ x + y - t ≤ 0 ∨ E (x + y - t)) (fun t ht => by
    have n1 : 0 < t := by have : ¬ t ≤ 0 := fun z => ht (.inl z); omega
    have n2 : ¬ E t := fun z => ht (.inr (.inl z))
    have n3 : 0 < x + y - t := by have : ¬ x + y - t ≤ 0 := fun z => ht (.inr (.inr (.inl z))); omega
    have n4 : ¬ E (x + y - t) := fun z => ht (.inr (.inr (.inr z)))
    have a := hf t n1 n2
    have b := hf (x + y - t) n3 n4
    rw [show x + y - (t + 1) = x + y - t - 1 by omega, show x + y - (t - 1) = x + y - t + 1 by omega]
    omega) 0 (x + y) (y := x) hx (by omega)
  have t4 : f x + f (x + y - x) ≤ f t + f (x + y - t) := t4
  rw [show x + y - x = y by omega] at t4
  have key : E t ∨ E (x + y - t) := by
    rcases t3 with z | z | z | z | z | z
    · rw [z]; exact .inl hE0
    · rw [z, Int.sub_self]; exact .inr hE0
    · rw [show t = 0 by omega]; exact .inl hE0
    · exact .inl z
    · rw [show x + y - t = 0 by omega]; exact .inr hE0
    · exact .inr z
  rcases key with k | k
  · exact ⟨t, x + y - t, k, t1, by omega, by omega, t4⟩
  · exact ⟨x + y - t, t, k, by omega, t1, by omega, by omega⟩
theorem split_best {E : Int → Prop} (hE0 : E 0) {f : Int → Int} (hf : ∀ y, 0 < y → ¬ E y → f (y + 1) - f y = f y - f (y - 1)) : ∀ (os : List Int) (x : Int), 0 ≤ x → (∀ o ∈ os, 0 ≤ o) → ∃ es z, es.length = os.length ∧ (∀ e ∈ es, E e ∧ 0 ≤ e) ∧ 0 ≤ z ∧ es.sum + z = x + os.sum ∧ f x + fsum f os ≤ fsum f es + f z
  | [], x, hx, _ => ⟨[], x, rfl, fun e h => (by cases h), hx, by simp, by simp [fsum]⟩
  | o :: os, x, hx, h => by
    obtain ⟨e, z, e1, e2, e3, e4, e5⟩ := pair_best hE0 hf hx (h o List.mem_cons_self)
    obtain ⟨es, w, w1, w2, w3, w4, w5⟩ := split_best hE0 hf os z e3 fun y hy => h y (List.mem_cons_of_mem _ hy)
    refine ⟨e :: es, w, by simp [w1], fun y hy => ?_, w3, ?_, ?_⟩
    · rcases List.mem_cons.mp hy with rfl | hy
      · exact ⟨e1, e2⟩
      · exact w2 y hy
    · rw [List.sum_cons, List.sum_cons]; omega
    · rw [fsum_cons, fsum_cons]; omega
/-! ### the tuples -/
def pkRow (pk : List Int → Int → List (List Int)) (items : List Int) (total : Int) (m : Nat) (k : Nat) : List (List Int) := match items[k]? with
  | some a => if a * (m + 1 : Nat) ≤ total then (pk (items.drop k) (total - a)).map (a :: ·) else []
  | none => []
def pk : Nat → List Int → Int → List (List Int)
  | 0, _, _ => [[]]
  | m + 1, items, total => (List.range items.length).flatMap (pkRow (pk m) items total m)
theorem pk_len : ∀ (m : Nat) (items : List Int) (total : Int), items.length ≤ 10 → (pk m items total).length ≤ 10 ^ m
  | 0, _, _, _ => by simp [pk]
  | m + 1, items, total, h => by
    have row : ∀ k, (pkRow (pk m) items total m k).length ≤ 10 ^ m := fun k => by
      unfold pkRow
      split
      · split
        · rw [List.length_map]
          exact pk_len m _ _ (by rw [List.length_drop]; omega)
        · simp
      · simp
    have : ∀ (l : List Nat), (l.flatMap (pkRow (pk m) items total m)).length ≤ l.length * 10 ^ m := by
      intro l
      induction l with
      | nil => simp
      | cons a l ih =>
        rw [List.flatMap_cons, List.length_append, List.length_cons, Nat.add_mul, Nat.one_mul]
        have := row a
        omega
    refine Nat.le_trans (this _) ?_
    rw [List.length_range, Nat.pow_succ, Nat.mul_comm]
    exact Nat.mul_le_mul_left _ h
theorem pk_sound : ∀ (m : Nat) (items : List Int) (total : Int), 0 ≤ total → (∀ a ∈ items, 0 ≤ a) → ∀ l ∈ pk m items total, l.length = m ∧ (∀ a ∈ l, a ∈ items) ∧ l.sum ≤ total
  | 0, _, total, h0, _, l, hl => by
    have hl : l ∈ [[]] := hl
    rw [List.mem_singleton] at hl
    subst hl
    exact ⟨rfl, fun a h => (by cases h), by simpa using h0⟩
  | m + 1, items, total, h0, hn, l, hl => by
    obtain ⟨k, _, hl⟩ := List.mem_flatMap.mp hl
    unfold pkRow at hl
    split at hl
    · rename_i a ha
      split at hl
      · rename_i hle
        obtain ⟨r, hr, rfl⟩ := List.mem_map.mp hl
        have am := List.mem_of_getElem? ha
        have a0 := hn a am
        have : a * 1 ≤ a * (m + 1 : Nat) := Int.mul_le_mul_of_nonneg_left (by omega) a0
        obtain ⟨i1, i2, i3⟩ := pk_sound m (items.drop k) (total - a) (by omega) (fun b hb => hn b (List.mem_of_mem_drop hb)) r hr
        refine ⟨by simp [i1], fun b hb => ?_, by rw [List.sum_cons]; omega⟩
        rcases List.mem_cons.mp hb with rfl | hb
        · exact am
        · exact List.mem_of_mem_drop (i2 b hb)
      · cases hl
    · cases hl
theorem pk_all : ∀ (m : Nat) (items : List Int) (total : Int), items.Pairwise (· < ·) → (∀ a ∈ items, 0 ≤ a) → ∀ l : List Int, l.length = m → l.Pairwise (· ≤ ·) → (∀ a ∈ l, a ∈ items) → l.sum ≤ total → l ∈ pk m items total
  | 0, items, total, _, _, l, hl, _, _, _ => by
    rw [List.length_eq_zero_iff.mp hl]
    exact List.mem_singleton.mpr rfl
  | m + 1, items, total, hi, hn, l, hl, hp, hm, hs => by
    cases l with
    | nil => simp at hl
    | cons a r =>
      have am := hm a List.mem_cons_self
      obtain ⟨k, hk, ek⟩ := List.getElem_of_mem am
      obtain ⟨p1, p2⟩ := List.pairwise_cons.mp hp
      have rl : r.length = m := by simpa using hl
      -- the least one as many times
      have low : ∀ (r : List Int), (∀ b ∈ r, a ≤ b) → a * (r.length : Int) ≤ r.sum := by
        intro r
        induction r with
        | nil => intro _; simp
        | cons b r ih =>
          intro h
          have := h b List.mem_cons_self
          have := ih fun c hc => h c (List.mem_cons_of_mem _ hc)
          rw [List.sum_cons, List.length_cons, Int.natCast_add, Int.mul_add]
          simp
          omega
      have lo := low r p1
      rw [rl] at lo
      have e1 : a * ((m + 1 : Nat) : Int) = a * m + a := by rw [Int.natCast_add, Int.mul_add]; simp
      rw [List.sum_cons] at hs
      refine List.mem_flatMap.mpr ⟨k, List.mem_range.mpr hk, ?_⟩
      unfold pkRow
      rw [List.getElem?_eq_getElem hk]
      simp only [ek]
      rw [if_pos (by omega)]
      refine List.mem_map.mpr ⟨r, pk_all m (items.drop k) (total - a) (hi.drop) (fun b hb => hn b (List.mem_of_mem_drop hb)) r rl p2 (fun b hb => ?_) (by omega), rfl⟩
      obtain ⟨j, hj, ej⟩ := List.getElem_of_mem (hm b (List.mem_cons_of_mem _ hb))
      have ab := p1 b hb
      have kj : k ≤ j := by
        refine Nat.le_of_not_lt fun lt => ?_
        have := List.pairwise_iff_getElem.mp hi j k hj hk lt
        omega
      rw [List.mem_iff_getElem]
      exact ⟨j - k, by rw [List.length_drop]; omega, by rw [List.getElem_drop]; simp only [show k + (j - k) = j by omega]; exact ej⟩
/-- the program's tuples -/
theorem picked_eq : ∀ (m d : Nat) (items : List Int) (total : Int), m < d → m ≤ 3 → items.length ≤ 10 → (∀ a ∈ items, a.natAbs ≤ 10 ^ 20) → t95_picked d items total (m : Int) = .ok (pk m items total)
  | m, 0, items, total, h, _, _, _ => by omega
  | 0, d + 1, items, total, _, _, _, _ => by
    rw [t95_picked, if_pos (by simp)]
    rfl
  | m + 1, d + 1, items, total, h, h3, hl, hb => by
    rw [t95_picked, if_neg (by simp; omega), R.guard_of (show rgOk 0 ((items.length : Nat) : Int) = true from decide_eq_true ⟨by omega, by omega, by omega, by omega⟩)]
    have e : (rngI 0 ((items.length : Nat) : Int)) = (List.range items.length).map fun i => ((i : Nat) : Int) := by
      unfold rngI
      rw [show (((items.length : Nat) : Int) - 0).toNat = items.length by omega]
      congr 1
      funext i
      omega
    have pl : (10 : Nat) ^ m ≤ 100 := by
      have : m ≤ 2 := by omega
      rcases m with _ | _ | _ | m <;> first | decide | omega
    have rl : ∀ k, (pkRow (pk m) items total m k).length ≤ 10 ^ m := fun k => by
      unfold pkRow
      split
      · split
        · rw [List.length_map]
          exact pk_len m _ _ (by rw [List.length_drop]; omega)
        · simp
      · simp
    have hsz : ([] : List (List Int)).length + (rngI 0 ((items.length : Nat) : Int)).length * 10 ^ m ≤ 100000 := by
      rw [e, List.length_map, List.length_range]
      have : items.length * 10 ^ m ≤ 10 * 100 := Nat.mul_le_mul hl pl
      simp only [List.length_nil]
      omega
    rw [forT_flat (g := fun i : Int => pkRow (pk m) items total m i.toNat) (k := 10 ^ m) (fun i hi s hs => ?_) (fun i _ => rl _) hsz]
    · simp only [List.nil_append, R.bind_ok]
      unfold pk
      rw [e, List.flatMap_map]
      simp only [Int.toNat_natCast]
    · rw [e] at hi
      obtain ⟨k, hk, rfl⟩ := List.mem_map.mp hi
      rw [List.mem_range] at hk
      obtain ⟨a, ha⟩ : ∃ a, items[k]? = some a := ⟨_, List.getElem?_eq_getElem hk⟩
      have ab := hb a (List.mem_of_getElem? ha)
      have ih := picked_eq m d (items.drop k) (total - a) (by omega) (by omega) (by rw [List.length_drop]; omega) fun b hb' => hb b (List.mem_of_mem_drop hb')
      have lp := pk_len m (items.drop k) (total - a) (by rw [List.length_drop]; omega)
      rw [Int.toNat_natCast] at hs ⊢
      unfold pkRow at hs ⊢
      rw [ha] at hs ⊢
      simp only at hs ⊢
      rw [ixR_nat, ha]
      simp only [R.of_some, R.bind_ok]
      rw [R.guard_of (smm_of (sm_big (Nat.lt_of_le_of_lt ab (by decide))) (sm_big (Nat.lt_of_le_of_lt (show _ ≤ 10 by omega) (by decide))))]
      by_cases q : a * ((m + 1 : Nat) : Int) ≤ total
      · rw [if_pos (by simpa using q)]
        rw [if_pos q] at hs ⊢
        rw [List.length_map] at hs
        rw [cut_from, show ((m + 1 : Nat) : Int) - 1 = (m : Int) by omega, ih, R.bind_ok, R.guard_of (szL_le (by omega))]
        rw [mapR_of (g := fun l => a :: l) fun l hl => ?_]
        · rw [R.bind_ok, R.guard_of (szA_le (by rw [List.length_map]; omega))]
          rfl
        · have := (pk_sound_len m (items.drop k) (total - a) l hl)
          rw [R.guard_of (szA_le (by simp only [List.length_cons, List.length_nil]; omega))]
          rfl
      · rw [if_neg (by simpa using q)]
        rw [if_neg q]
        simp
where pk_sound_len : ∀ (m : Nat) (items : List Int) (total : Int), ∀ l ∈ pk m items total, l.length = m
  | 0, _, _, l, hl => by
    have hl : l ∈ [[]] := hl
    rw [List.mem_singleton] at hl
    subst hl
    rfl
  | m + 1, items, total, l, hl => by
    obtain ⟨k, _, hl⟩ := List.mem_flatMap.mp hl
    unfold pkRow at hl
    split at hl
    · split at hl
      · obtain ⟨r, hr, rfl⟩ := List.mem_map.mp hl
        rw [List.length_cons, pk_sound_len m _ _ r hr]
      · cases hl
    · cases hl
end Tp
/-! K11Q: the best and the worst split; the law's sums. -/
namespace Tp
open PySem
/-- so many natural numbers of a total -/
def Cmp (n : Nat) (total : Int) (l : List Int) : Prop := l.length = n ∧ (∀ x ∈ l, 0 ≤ x) ∧ l.sum = total
def Mhi (f : Int → Int) (n : Nat) (total v : Int) : Prop := (∃ l, Cmp n total l ∧ fsum f l = v) ∧ ∀ l, Cmp n total l → fsum f l ≤ v
def Mlo (f : Int → Int) (n : Nat) (total v : Int) : Prop := (∃ l, Cmp n total l ∧ fsum f l = v) ∧ ∀ l, Cmp n total l → v ≤ fsum f l
/-- the greatest of rows -/
theorem mxB_spec {α : Type} {lt : Int × α → Int × α → Bool} (h1 : ∀ a b, lt a b = true → a.1 ≤ b.1) (h2 : ∀ a b, lt a b = false → b.1 ≤ a.1) : ∀ (xs : List (Int × α)) (x : Int × α), xs.foldl (fun a y => if lt a y = true then y else a) x ∈ x :: xs ∧ ∀ y ∈ x :: xs, y.1 ≤ (xs.foldl (fun a y => if lt a y = true then y else a) x).1
  | [], x => ⟨by simp, fun y hy => by rw [List.mem_singleton] at hy; subst hy; exact Int.le_refl _⟩
  | z :: xs, x => by
    rw [List.foldl_cons]
    obtain ⟨i1, i2⟩ := mxB_spec h1 h2 xs (if lt x z = true then z else x)
    refine ⟨?_, fun y hy => ?_⟩
    · rcases List.mem_cons.mp i1 with e | m
      · rw [e]
        split <;> simp
      · exact List.mem_cons_of_mem _ (List.mem_cons_of_mem _ m)
    · have c := i2 _ List.mem_cons_self
      rcases List.mem_cons.mp hy with rfl | hy
      · refine Int.le_trans ?_ c
        split
        · exact h1 _ _ (by assumption)
        · exact Int.le_refl _
      · rcases List.mem_cons.mp hy with rfl | hy
        · refine Int.le_trans ?_ c
          split
          · exact Int.le_refl _
          · rename_i q
            exact h2 _ _ (by simpa using q)
        · exact i2 y (List.mem_cons_of_mem _ hy)
theorem mnB_spec {α : Type} {lt : Int × α → Int × α → Bool} (h1 : ∀ a b, lt a b = true → a.1 ≤ b.1) (h2 : ∀ a b, lt a b = false → b.1 ≤ a.1) : ∀ (xs : List (Int × α)) (x : Int × α), xs.foldl (fun a y => if lt y a = true then y else a) x ∈ x :: xs ∧ ∀ y ∈ x :: xs, (xs.foldl (fun a y => if lt y a = true then y else a) x).1 ≤ y.1
  | [], x => ⟨by simp, fun y hy => by rw [List.mem_singleton] at hy; subst hy; exact Int.le_refl _⟩
  | z :: xs, x => by
    rw [List.foldl_cons]
    obtain ⟨i1, i2⟩ := mnB_spec h1 h2 xs (if lt z x = true then z else x)
    refine ⟨?_, fun y hy => ?_⟩
    · rcases List.mem_cons.mp i1 with e | m
      · rw [e]
        split <;> simp
      · exact List.mem_cons_of_mem _ (List.mem_cons_of_mem _ m)
    · have c := i2 _ List.mem_cons_self
      rcases List.mem_cons.mp hy with rfl | hy
      · refine Int.le_trans c ?_
        split
        · exact h1 _ _ (by assumption)
        · exact Int.le_refl _
      · rcases List.mem_cons.mp hy with rfl | hy
        · refine Int.le_trans c ?_
          split
          · exact Int.le_refl _
          · rename_i q
            exact h2 _ _ (by simpa using q)
        · exact i2 y (List.mem_cons_of_mem _ hy)
abbrev lr : Int × List Int → Int × List Int → Bool := lt2 ltI (ltU ltI)
theorem lr1 (a b : Int × List Int) (h : lr a b = true) : a.1 ≤ b.1 := by
  unfold lr lt2 at h
  split at h
  · omega
  · exact Int.le_of_lt (of_decide_eq_true h)
theorem lr2 (a b : Int × List Int) (h : lr a b = false) : b.1 ≤ a.1 := by
  unfold lr lt2 at h
  split at h
  · omega
  · have := of_decide_eq_false h
    omega
/-- the rows -/
def rowsL (c : Cu) (total : Int) (L : List (List Int)) : List (Int × List Int) := L.map fun l => (fsum (wv c) (l ++ [total - l.sum]), l ++ [total - l.sum])
structure Few (c : Cu) : Prop where
  short : Short c
  few : c.length ≤ 5
  low : ∀ p ∈ c, p.1 ≤ 10 ^ 6
theorem corn_ok {c : Cu} (h : Few c) : (corn c).length ≤ 10 ∧ (∀ a ∈ corn c, 0 ≤ a ∧ a ≤ 10 ^ 6) ∧ 0 ∈ corn c := by
  refine ⟨Nat.le_trans (corn_len c) (by have := h.few; omega), fun a ha => ?_, ?_⟩
  · rcases corn_mem.mp ha with ⟨p, hp, rfl⟩ | ⟨p, hp, h0, rfl⟩
    · exact ⟨h.short.cur.pos p hp, h.low p hp⟩
    · have := h.low p hp
      omega
  · obtain ⟨p, r, e, z⟩ := h.short.cur.head
    exact corn_mem.mpr (.inl ⟨p, by rw [e]; simp, z⟩)
theorem splits_eq {c : Cu} (h : Few c) {total : Int} (h0 : 0 ≤ total) (h1 : total ≤ 10 ^ 6) {n : Nat} (hn : 1 ≤ n) (hn4 : n ≤ 4) : t96_all_splits c total (n : Int) = .ok (rowsL c total (pk (n - 1) (corn c) total)) := by
  obtain ⟨c1, c2, c3⟩ := corn_ok h
  have few := h.few
  have pl := pk_len (n - 1) (corn c) total c1
  have pw : (10 : Nat) ^ (n - 1) ≤ 1000 := by
    have : n - 1 ≤ 3 := by omega
    rcases hq : n - 1 with _ | _ | _ | _ | m <;> first | decide | omega
  unfold t96_all_splits
  rw [corners_eq (by omega), R.bind_ok, show (n : Int) - 1 = ((n - 1 : Nat) : Int) by omega, picked_eq (n - 1) 5 (corn c) total (by omega) (by omega) c1 (fun a ha => by have := c2 a ha; omega), R.bind_ok]
  rw [forT_flat (g := fun l => [(fsum (wv c) (l ++ [total - l.sum]), l ++ [total - l.sum])]) (k := 1) (s := []) (fun l hl s hs => ?_) (fun l _ => by simp) (by simp; omega)]
  · simp only [List.nil_append, R.bind_ok]
    unfold rowsL
    rw [List.map_eq_flatMap]
  · obtain ⟨p1, p2, p3⟩ := pk_sound (n - 1) (corn c) total h0 (fun a ha => (c2 a ha).1) l hl
    have l0 := sum_nn fun x hx => (c2 x (p2 x hx)).1
    rw [R.guard_of (szA_le (by simp; omega)), R.guard_of (szL_le (by simp; omega))]
    rw [mapR_of (g := wv c) fun x hx => ?_]
    · rw [R.bind_ok, R.guard_of (szP_lt (by simp at hs; omega))]
      rfl
    · have xb : 0 ≤ x ∧ x ≤ 10 ^ 6 := by
        rcases List.mem_append.mp hx with hx | hx
        · exact c2 x (p2 x hx)
        · rw [List.mem_singleton] at hx
          omega
      rw [worth_eq h.short.cur xb.1 (by unfold bg; omega)]
      rfl
theorem ins_sorted (l : List Int) : ∃ m : List Int, m.Perm l ∧ m.Pairwise (· ≤ ·) := by
  refine ⟨l.mergeSort fun a b => decide (a ≤ b), List.mergeSort_perm _ _, ?_⟩
  have := List.pairwise_mergeSort (le := fun a b : Int => decide (a ≤ b)) (fun a b c h1 h2 => by simp at *; omega) (fun a b => by simp; omega) l
  exact this.imp fun h => of_decide_eq_true h
/-- rows show the due sums -/
theorem rows_cmp {c : Cu} (h : Few c) {total : Int} (h0 : 0 ≤ total) {n : Nat} (hn : 1 ≤ n) {r : Int × List Int} (hr : r ∈ rowsL c total (pk (n - 1) (corn c) total)) : Cmp n total r.2 ∧ fsum (wv c) r.2 = r.1 := by
  obtain ⟨c1, c2, c3⟩ := corn_ok h
  obtain ⟨l, hl, rfl⟩ := List.mem_map.mp hr
  obtain ⟨p1, p2, p3⟩ := pk_sound (n - 1) (corn c) total h0 (fun a ha => (c2 a ha).1) l hl
  refine ⟨⟨by simp; omega, fun x hx => ?_, by simp [List.sum_append]; omega⟩, rfl⟩
  rcases List.mem_append.mp hx with hx | hx
  · exact (c2 x (p2 x hx)).1
  · rw [List.mem_singleton] at hx
    omega
theorem rows_best {c : Cu} (h : Few c) {total : Int} {n : Nat} (hn : 1 ≤ n) (g : Int → Int) (hg : ∀ y, 0 < y → ¬ y ∈ corn c → g (y + 1) - g y = g y - g (y - 1)) {l : List Int} (hl : Cmp n total l) : ∃ r ∈ rowsL c total (pk (n - 1) (corn c) total), fsum g l ≤ fsum g r.2 := by
  obtain ⟨c1, c2, c3⟩ := corn_ok h
  obtain ⟨l1, l2, l3⟩ := hl
  cases l with
  | nil => simp at l1; omega
  | cons x os =>
    obtain ⟨es, z, e1, e2, e3, e4, e5⟩ := split_best (E := fun y => y ∈ corn c) c3 hg os x (l2 x List.mem_cons_self) fun o ho => l2 o (List.mem_cons_of_mem _ ho)
    obtain ⟨m, m1, m2⟩ := ins_sorted es
    have ms := sum_perm m1
    rw [List.sum_cons] at l3
    refine ⟨_, List.mem_map.mpr ⟨m, pk_all (n - 1) (corn c) total (sortI_inc _) (fun a ha => (c2 a ha).1) m (by rw [m1.length_eq, e1]; simp at l1; omega) m2 (fun a ha => (e2 a (m1.mem_iff.mp ha)).1) (by omega), rfl⟩, ?_⟩
    rw [fsum_cons]
    simp only
    rw [fsum_app, fsum_perm g m1, ms, show total - es.sum = z by omega]
    show _ ≤ fsum g es + (g z + 0)
    omega
theorem corn_fl {c : Cu} (h : Cur c) : ∀ y, 0 < y → ¬ y ∈ corn c → wv c (y + 1) - wv c y = wv c y - wv c (y - 1) := fun y hy hn => wv_flat h hy (fun p hp e => hn (corn_mem.mpr (.inl ⟨p, hp, e⟩))) fun p hp e => hn (corn_mem.mpr (.inr ⟨p, hp, by omega, by omega⟩))
theorem rows_ne {c : Cu} (h : Few c) {total : Int} (h0 : 0 ≤ total) {n : Nat} (hn : 1 ≤ n) : ∃ x xs, rowsL c total (pk (n - 1) (corn c) total) = x :: xs := by
  obtain ⟨r, hr, _⟩ := rows_best (total := total) h hn (wv c) (corn_fl h.short.cur) (l := total :: List.replicate (n - 1) 0) ⟨by simp; omega, fun x hx => by
    rcases List.mem_cons.mp hx with rfl | hx
    · exact h0
    · rw [(List.mem_replicate.mp hx).2]; exact Int.le_refl _, by simp⟩
  cases e : rowsL c total (pk (n - 1) (corn c) total) with
  | nil => rw [e] at hr; cases hr
  | cons x xs => exact ⟨x, xs, rfl⟩
theorem check_split_eq {c : Cu} (h : Few c) {total : Int} (h0 : 0 ≤ total) (h1 : total ≤ 10 ^ 6) {n : Nat} (hn : 1 ≤ n) (hn4 : n ≤ 4) : t97_check_split c total (n : Int) = .ok () := by
  unfold t97_check_split
  rw [check_curve_eq h.short, R.bind_ok, check_natural_eq h0 (by omega), R.bind_ok]
  have : t94_check_parts (n : Int) = .ok () := by
    unfold t94_check_parts t1_is_integer
    have a : (1 : Int) ≤ n := by omega
    have b : (n : Int) ≤ 4 := by omega
    simp [a, b]
  rw [this]
  rfl
theorem best_eq {c : Cu} (h : Few c) {total : Int} (h0 : 0 ≤ total) (h1 : total ≤ 10 ^ 6) {n : Nat} (hn : 1 ≤ n) (hn4 : n ≤ 4) : ∃ r, t98_best_split c total (n : Int) = .ok r ∧ Cmp n total r.2 ∧ fsum (wv c) r.2 = r.1 ∧ Mhi (wv c) n total r.1 := by
  obtain ⟨x, xs, e⟩ := rows_ne h h0 hn
  obtain ⟨m1, m2⟩ := mxB_spec lr1 lr2 xs x
  rw [← e] at m1 m2
  generalize hv : xs.foldl (fun a y => if lr a y = true then y else a) x = v at m1 m2
  obtain ⟨r1, r2⟩ := rows_cmp h h0 hn m1
  refine ⟨v, ?_, r1, r2, ⟨v.2, r1, r2⟩, fun l hl => ?_⟩
  · unfold t98_best_split
    rw [check_split_eq h h0 h1 hn hn4, R.bind_ok, splits_eq h h0 h1 hn hn4, R.bind_ok, e]
    show R.bind (R.of (some (xs.foldl (fun a y => if lr a y = true then y else a) x))) _ = _
    rw [hv]
    rfl
  · obtain ⟨r, hr, le⟩ := rows_best h hn (wv c) (corn_fl h.short.cur) hl
    have := m2 r hr
    rw [(rows_cmp h h0 hn hr).2] at le
    omega
theorem fsum_neg (f : Int → Int) : ∀ l, fsum (fun x => - f x) l = - fsum f l
  | [] => rfl
  | a :: l => by rw [fsum_cons, fsum_cons, fsum_neg f l]; omega
theorem worst_eq {c : Cu} (h : Few c) {total : Int} (h0 : 0 ≤ total) (h1 : total ≤ 10 ^ 6) {n : Nat} (hn : 1 ≤ n) (hn4 : n ≤ 4) : ∃ r, t99_worst_split c total (n : Int) = .ok r ∧ Cmp n total r.2 ∧ fsum (wv c) r.2 = r.1 ∧ Mlo (wv c) n total r.1 := by
  obtain ⟨x, xs, e⟩ := rows_ne h h0 hn
  obtain ⟨m1, m2⟩ := mnB_spec lr1 lr2 xs x
  rw [← e] at m1 m2
  generalize hv : xs.foldl (fun a y => if lr y a = true then y else a) x = v at m1 m2
  obtain ⟨r1, r2⟩ := rows_cmp h h0 hn m1
  refine ⟨v, ?_, r1, r2, ⟨v.2, r1, r2⟩, fun l hl => ?_⟩
  · unfold t99_worst_split
    rw [check_split_eq h h0 h1 hn hn4, R.bind_ok, splits_eq h h0 h1 hn hn4, R.bind_ok, e]
    show R.bind (R.of (some (xs.foldl (fun a y => if lr y a = true then y else a) x))) _ = _
    rw [hv]
    rfl
  · obtain ⟨r, hr, le⟩ := rows_best h hn (fun x => - wv c x) (fun y hy hn => by have := corn_fl h.short.cur y hy hn; omega) hl
    have := m2 r hr
    rw [fsum_neg, fsum_neg, (rows_cmp h h0 hn hr).2] at le
    omega
end Tp
/-! K11L: the law's own sums; the law. -/
namespace Tp
open PySem
theorem Mhi.uniq {f : Int → Int} {n : Nat} {t a b : Int} (h : Mhi f n t a) (k : Mhi f n t b) : a = b := by
  obtain ⟨⟨l, h1, h2⟩, h3⟩ := h
  obtain ⟨⟨m, k1, k2⟩, k3⟩ := k
  have := h3 m k1
  have := k3 l h1
  omega
theorem Mlo.uniq {f : Int → Int} {n : Nat} {t a b : Int} (h : Mlo f n t a) (k : Mlo f n t b) : a = b := by
  obtain ⟨⟨l, h1, h2⟩, h3⟩ := h
  obtain ⟨⟨m, k1, k2⟩, k3⟩ := k
  have := h3 m k1
  have := k3 l h1
  omega
theorem maxL_sp : ∀ (ns : List Int) (n : Int), maxL n ns ∈ n :: ns ∧ ∀ x ∈ n :: ns, x ≤ maxL n ns
  | [], n => ⟨List.mem_cons_self, fun x hx => by rw [List.mem_singleton] at hx; subst hx; exact Int.le_refl _⟩
  | m :: ns, n => by
    obtain ⟨h1, h2⟩ := maxL_sp ns (max n m)
    have e : maxL n (m :: ns) = maxL (max n m) ns := rfl
    rw [e]
    have h0 := h2 _ List.mem_cons_self
    refine ⟨?_, fun x hx => ?_⟩
    · rcases List.mem_cons.mp h1 with h1 | h1
      · rw [h1]
        by_cases q : n ≤ m
        · rw [Int.max_eq_right q]; simp
        · rw [Int.max_eq_left (by omega)]; simp
      · exact List.mem_cons_of_mem _ (List.mem_cons_of_mem _ h1)
    · rcases List.mem_cons.mp hx with rfl | hx
      · omega
      · rcases List.mem_cons.mp hx with rfl | hx
        · omega
        · exact h2 x (List.mem_cons_of_mem _ hx)
theorem minL_sp : ∀ (ns : List Int) (n : Int), minL n ns ∈ n :: ns ∧ ∀ x ∈ n :: ns, minL n ns ≤ x
  | [], n => ⟨List.mem_cons_self, fun x hx => by rw [List.mem_singleton] at hx; subst hx; exact Int.le_refl _⟩
  | m :: ns, n => by
    obtain ⟨h1, h2⟩ := minL_sp ns (min n m)
    have e : minL n (m :: ns) = minL (min n m) ns := rfl
    rw [e]
    have h0 := h2 _ List.mem_cons_self
    refine ⟨?_, fun x hx => ?_⟩
    · rcases List.mem_cons.mp h1 with h1 | h1
      · rw [h1]
        by_cases q : n ≤ m
        · rw [Int.min_eq_left q]; simp
        · rw [Int.min_eq_right (by omega)]; simp
      · exact List.mem_cons_of_mem _ (List.mem_cons_of_mem _ h1)
    · rcases List.mem_cons.mp hx with rfl | hx
      · omega
      · rcases List.mem_cons.mp hx with rfl | hx
        · omega
        · exact h2 x (List.mem_cons_of_mem _ hx)
theorem maxO_sp {xs : List Int} (h : xs ≠ []) : ∃ m, maxO xs = some m ∧ m ∈ xs ∧ ∀ x ∈ xs, x ≤ m := by
  cases xs with
  | nil => exact absurd rfl h
  | cons n ns => exact ⟨_, rfl, maxL_sp ns n⟩
theorem minO_sp {xs : List Int} (h : xs ≠ []) : ∃ m, minO xs = some m ∧ m ∈ xs ∧ ∀ x ∈ xs, m ≤ x := by
  cases xs with
  | nil => exact absurd rfl h
  | cons n ns => exact ⟨_, rfl, minL_sp ns n⟩
/-- the law's grid -/
def Gd (f : Int → Int) (T : Nat) (k : Nat) (g : List (Int × Int)) : Prop := g.length = T + 1 ∧ ∀ w : Nat, w ≤ T → ∃ a b, g[w]? = some (a, b) ∧ Mhi f k w a ∧ Mlo f k w b
theorem rngI_nat (n : Nat) : rngI 0 (n : Int) = (List.range n).map fun i => ((i : Nat) : Int) := by
  unfold rngI
  rw [show ((n : Int) - 0).toNat = n by omega]
  congr 1
  funext i
  omega
theorem cmp_one {f : Int → Int} {w : Nat} : Mhi f 1 w (f w) ∧ Mlo f 1 w (f w) := by
  have one : ∀ l, Cmp 1 (w : Int) l → fsum f l = f w := fun l ⟨h1, h2, h3⟩ => by
    match l, h1 with
    | [x], _ =>
      have : x = w := by simpa using h3
      rw [this]
      simp [fsum]
  have ex : Cmp 1 (w : Int) [(w : Int)] := ⟨rfl, fun x hx => by rw [List.mem_singleton] at hx; omega, by simp⟩
  exact ⟨⟨⟨_, ex, one _ ex⟩, fun l hl => by rw [one l hl]; exact Int.le_refl _⟩, ⟨⟨_, ex, one _ ex⟩, fun l hl => by rw [one l hl]; exact Int.le_refl _⟩⟩
section
variable {f : Int → Int} {T k : Nat} {g : List (Int × Int)} (hg : Gd f T k g)
include hg
theorem gd_get {w : Nat} (h : w ≤ T) : ∃ a b, g[w]? = some (a, b) ∧ Mhi f k w a ∧ Mlo f k w b := hg.2 w h
theorem step_hi {w : Nat} (hw : w ≤ T) {xs : List Int} (hx : ∀ v, v ∈ xs ↔ ∃ x : Nat, x ≤ w ∧ ∃ a b, g[x]? = some (a, b) ∧ v = a + f ((w : Int) - x)) : ∃ m, maxO xs = some m ∧ Mhi f (k + 1) w m := by
  have ne : xs ≠ [] := fun e => by
    obtain ⟨a, b, h1, _⟩ := hg.2 w hw
    have := (hx (a + f ((w : Int) - (w : Nat)))).mpr ⟨w, Nat.le_refl _, a, b, h1, rfl⟩
    rw [e] at this
    cases this
  obtain ⟨m, e, m1, m2⟩ := maxO_sp ne
  refine ⟨m, e, ?_, fun l hl => ?_⟩
  · obtain ⟨x, xw, a, b, h1, rfl⟩ := (hx m).mp m1
    obtain ⟨a', b', h1', ⟨⟨l, l1, l2⟩, _⟩, _⟩ := hg.2 x (by omega)
    rw [h1] at h1'
    cases h1'
    obtain ⟨c1, c2, c3⟩ := l1
    refine ⟨((w : Int) - x) :: l, ⟨by simp [c1], fun y hy => ?_, by rw [List.sum_cons, c3]; omega⟩, by rw [fsum_cons, l2]; omega⟩
    rcases List.mem_cons.mp hy with rfl | hy
    · omega
    · exact c2 y hy
  · obtain ⟨c1, c2, c3⟩ := hl
    cases l with
    | nil => simp at c1
    | cons y r =>
      have y0 := c2 y List.mem_cons_self
      have r0 := sum_nn fun z hz => c2 z (List.mem_cons_of_mem _ hz)
      rw [List.sum_cons] at c3
      obtain ⟨x, ex⟩ : ∃ x : Nat, r.sum = x := ⟨r.sum.toNat, by omega⟩
      obtain ⟨a, b, h1, ⟨_, hi⟩, _⟩ := hg.2 x (by omega)
      have := hi r ⟨by simpa using c1, fun z hz => c2 z (List.mem_cons_of_mem _ hz), ex⟩
      have := m2 _ ((hx _).mpr ⟨x, by omega, a, b, h1, rfl⟩)
      rw [fsum_cons, show y = (w : Int) - x by omega]
      omega
theorem step_lo {w : Nat} (hw : w ≤ T) {xs : List Int} (hx : ∀ v, v ∈ xs ↔ ∃ x : Nat, x ≤ w ∧ ∃ a b, g[x]? = some (a, b) ∧ v = b + f ((w : Int) - x)) : ∃ m, minO xs = some m ∧ Mlo f (k + 1) w m := by
  have ne : xs ≠ [] := fun e => by
    obtain ⟨a, b, h1, _⟩ := hg.2 w hw
    have := (hx (b + f ((w : Int) - (w : Nat)))).mpr ⟨w, Nat.le_refl _, a, b, h1, rfl⟩
    rw [e] at this
    cases this
  obtain ⟨m, e, m1, m2⟩ := minO_sp ne
  refine ⟨m, e, ?_, fun l hl => ?_⟩
  · obtain ⟨x, xw, a, b, h1, rfl⟩ := (hx m).mp m1
    obtain ⟨a', b', h1', _, ⟨⟨l, l1, l2⟩, _⟩⟩ := hg.2 x (by omega)
    rw [h1] at h1'
    cases h1'
    obtain ⟨c1, c2, c3⟩ := l1
    refine ⟨((w : Int) - x) :: l, ⟨by simp [c1], fun y hy => ?_, by rw [List.sum_cons, c3]; omega⟩, by rw [fsum_cons, l2]; omega⟩
    rcases List.mem_cons.mp hy with rfl | hy
    · omega
    · exact c2 y hy
  · obtain ⟨c1, c2, c3⟩ := hl
    cases l with
    | nil => simp at c1
    | cons y r =>
      have y0 := c2 y List.mem_cons_self
      have r0 := sum_nn fun z hz => c2 z (List.mem_cons_of_mem _ hz)
      rw [List.sum_cons] at c3
      obtain ⟨x, ex⟩ : ∃ x : Nat, r.sum = x := ⟨r.sum.toNat, by omega⟩
      obtain ⟨a, b, h1, _, ⟨_, lo⟩⟩ := hg.2 x (by omega)
      have := lo r ⟨by simpa using c1, fun z hz => c2 z (List.mem_cons_of_mem _ hz), ex⟩
      have := m2 _ ((hx _).mpr ⟨x, by omega, a, b, h1, rfl⟩)
      rw [fsum_cons, show y = (w : Int) - x by omega]
      omega
end
theorem sums_eq {c : Cu} (h : Few c) {T : Nat} (hT : T ≤ 100) {n : Nat} (hn : 1 ≤ n) (hn4 : n ≤ 4) : ∃ g, t101_law_sums c (T : Int) (n : Int) = .ok g ∧ Gd (wv c) T n g := by
  have rT : rgOk 0 ((T : Int) + 1) = true := decide_eq_true ⟨by omega, by omega, by omega, by omega⟩
  have lT : (rngI 0 ((T : Int) + 1)).length = T + 1 := by rw [rngI_len]; omega
  have vals : ∀ i : Nat, ((rngI 0 ((T : Int) + 1)).map (wv c))[i]? = if i < T + 1 then some (wv c i) else none := fun i => by
    rw [show (T : Int) + 1 = ((T + 1 : Nat) : Int) by omega, rngI_nat, List.map_map, List.getElem?_map]
    by_cases q : i < T + 1
    · rw [if_pos q, List.getElem?_range q]
      rfl
    · rw [if_neg q, List.getElem?_eq_none (by simpa using q)]
      rfl
  unfold t101_law_sums
  rw [R.guard_of rT, R.guard_of (szL_le (by omega))]
  rw [mapR_of (g := wv c) fun x hx => ?_]
  rotate_left
  · rw [rngI_mem] at hx
    rw [at_eqb h.short.cur hx.1 (by unfold bg; omega)]
    rfl
  rw [R.bind_ok, R.guard_of (szL_le (by rw [List.length_map]; omega))]
  simp only [mapR_ok, R.bind_ok]
  rw [R.guard_of (show rgOk 0 ((n : Int) - 1) = true from decide_eq_true ⟨by omega, by omega, by omega, by omega⟩)]
  generalize hV : (rngI 0 ((T : Int) + 1)).map (wv c) = V at vals ⊢
  have Vl : V.length = T + 1 := by rw [← hV, List.length_map, lT]
  have start : Gd (wv c) T 1 (V.map fun a5 => (a5, a5)) := ⟨by rw [List.length_map, Vl], fun w hw => ⟨wv c w, wv c w, by rw [List.getElem?_map, vals, if_pos (by omega)]; rfl, cmp_one⟩⟩
  obtain ⟨g, e, hg⟩ := forT_inv (I := fun j (g : List (Int × Int)) => j ≤ 3 → Gd (wv c) T (1 + j) g) (l := rngI 0 ((n : Int) - 1)) (n := 0) (s := V.map fun a5 => (a5, a5)) (b := fun (a9 : Int) (u8 : (List (Int × Int))) => R.guard (rgOk 0 ((T : Int) + 1)) <| R.bind (forT (fun (a12 : Int) (u11 : (List (Int × Int))) => R.guard (rgOk 0 (a12 + 1)) <| R.guard (szL (rngI 0 (a12 + 1))) <| R.bind (mapR (fun (a14 : Int) => R.bind (R.of (ixR u8 a14)) fun (y15 : (Int × Int)) => R.bind (R.of (ixR V (a12 - a14))) fun (y17 : Int) => .ok (y15.1 + y17)) (rngI 0 (a12 + 1))) fun (y19 : (List Int)) => R.guard (rgOk 0 (a12 + 1)) <| R.guard (szL (rngI 0 (a12 + 1))) <| R.bind (mapR (fun (a21 : Int) => R.bind (R.of (ixR u8 a21)) fun (y22 : (Int × Int)) => R.bind (R.of (ixR V (a12 - a21))) fun (y24 : Int) => .ok (y22.2 + y24)) (rngI 0 (a12 + 1))) fun (y26 : (List Int)) => R.bind (R.of (maxO y19)) fun (y27 : Int) => R.bind (R.of (minO y26)) fun (y29 : Int) => R.guard (szP (α := (Int × Int)) u11) <| .ok (u11 ++ [(y27, y29)])) (rngI 0 ((T : Int) + 1)) []) fun (u11 : (List (Int × Int))) => .ok u11) (fun _ => start) fun i a u hi hI => by
      have il : i < 3 := by
        have := (List.getElem?_eq_some_iff.mp hi).1
        rw [rngI_len] at this
        omega
      rw [Nat.zero_add] at hI ⊢
      have gu := hI (by omega)
      rw [R.guard_of rT]
      let hiL : Nat → List Int := fun w => (rngI 0 ((w : Int) + 1)).map fun x => ((u[x.toNat]?).getD (0, 0)).1 + wv c ((w : Int) - x)
      let loL : Nat → List Int := fun w => (rngI 0 ((w : Int) + 1)).map fun x => ((u[x.toNat]?).getD (0, 0)).2 + wv c ((w : Int) - x)
      have hiM : ∀ w ≤ T, ∀ v, v ∈ hiL w ↔ ∃ x : Nat, x ≤ w ∧ ∃ a b, u[x]? = some (a, b) ∧ v = a + wv c ((w : Int) - x) := fun w hw v => by
        show v ∈ (rngI 0 ((w : Int) + 1)).map _ ↔ _
        rw [show (w : Int) + 1 = ((w + 1 : Nat) : Int) by omega, rngI_nat, List.map_map, List.mem_map]
        constructor
        · rintro ⟨x, hx, rfl⟩
          rw [List.mem_range] at hx
          obtain ⟨a, b, e, _⟩ := gu.2 x (by omega)
          exact ⟨x, by omega, a, b, e, by simp [e]⟩
        · rintro ⟨x, hx, a, b, e, rfl⟩
          exact ⟨x, List.mem_range.mpr (by omega), by simp [e]⟩
      have loM : ∀ w ≤ T, ∀ v, v ∈ loL w ↔ ∃ x : Nat, x ≤ w ∧ ∃ a b, u[x]? = some (a, b) ∧ v = b + wv c ((w : Int) - x) := fun w hw v => by
        show v ∈ (rngI 0 ((w : Int) + 1)).map _ ↔ _
        rw [show (w : Int) + 1 = ((w + 1 : Nat) : Int) by omega, rngI_nat, List.map_map, List.mem_map]
        constructor
        · rintro ⟨x, hx, rfl⟩
          rw [List.mem_range] at hx
          obtain ⟨a, b, e, _⟩ := gu.2 x (by omega)
          exact ⟨x, by omega, a, b, e, by simp [e]⟩
        · rintro ⟨x, hx, a, b, e, rfl⟩
          exact ⟨x, List.mem_range.mpr (by omega), by simp [e]⟩
      have inner : forT (fun (a12 : Int) (u11 : (List (Int × Int))) => R.guard (rgOk 0 (a12 + 1)) <| R.guard (szL (rngI 0 (a12 + 1))) <| R.bind (mapR (fun (a14 : Int) => R.bind (R.of (ixR u a14)) fun (y15 : (Int × Int)) => R.bind (R.of (ixR V (a12 - a14))) fun (y17 : Int) => .ok (y15.1 + y17)) (rngI 0 (a12 + 1))) fun (y19 : (List Int)) => R.guard (rgOk 0 (a12 + 1)) <| R.guard (szL (rngI 0 (a12 + 1))) <| R.bind (mapR (fun (a21 : Int) => R.bind (R.of (ixR u a21)) fun (y22 : (Int × Int)) => R.bind (R.of (ixR V (a12 - a21))) fun (y24 : Int) => .ok (y22.2 + y24)) (rngI 0 (a12 + 1))) fun (y26 : (List Int)) => R.bind (R.of (maxO y19)) fun (y27 : Int) => R.bind (R.of (minO y26)) fun (y29 : Int) => R.guard (szP (α := (Int × Int)) u11) <| .ok (u11 ++ [(y27, y29)])) (rngI 0 ((T : Int) + 1)) [] = .ok ([] ++ (rngI 0 ((T : Int) + 1)).flatMap fun w => [((maxO (hiL w.toNat)).getD 0, (minO (loL w.toNat)).getD 0)]) := by
        refine forT_flat (k := 1) (fun w hw s hs => ?_) (fun w _ => by simp) (by rw [lT]; simp; omega)
        rw [rngI_mem] at hw
        obtain ⟨j, rfl⟩ : ∃ j : Nat, w = j := ⟨w.toNat, by omega⟩
        have jT : j ≤ T := by omega
        have rj : rgOk 0 ((j : Int) + 1) = true := decide_eq_true ⟨by omega, by omega, by omega, by omega⟩
        have lj : (rngI 0 ((j : Int) + 1)).length ≤ 200 := by rw [rngI_len]; omega
        have at_ : ∀ x ∈ rngI 0 ((j : Int) + 1), ∃ a b, ixR u x = some (a, b) ∧ u[x.toNat]? = some (a, b) ∧ ixR V ((j : Int) - x) = some (wv c ((j : Int) - x)) := fun x hx => by
          rw [rngI_mem] at hx
          obtain ⟨y, rfl⟩ : ∃ y : Nat, x = y := ⟨x.toNat, by omega⟩
          obtain ⟨a, b, e, _⟩ := gu.2 y (by omega)
          refine ⟨a, b, by rw [ixR_nat]; exact e, by rw [Int.toNat_natCast]; exact e, ?_⟩
          rw [show (j : Int) - (y : Int) = ((j - y : Nat) : Int) by omega, ixR_nat, vals, if_pos (by omega)]
        rw [R.guard_of rj, R.guard_of (szL_le (by omega))]
        rw [mapR_of (g := fun x => ((u[x.toNat]?).getD (0, 0)).1 + wv c ((j : Int) - x)) fun x hx => by
          obtain ⟨a, b, e1, e2, e3⟩ := at_ x hx
          rw [e1, e3, e2]
          rfl]
        rw [R.bind_ok, R.guard_of rj, R.guard_of (szL_le (by omega))]
        rw [mapR_of (g := fun x => ((u[x.toNat]?).getD (0, 0)).2 + wv c ((j : Int) - x)) fun x hx => by
          obtain ⟨a, b, e1, e2, e3⟩ := at_ x hx
          rw [e1, e3, e2]
          rfl]
        obtain ⟨m, em, _⟩ := step_hi gu jT (hiM j jT)
        obtain ⟨m', em', _⟩ := step_lo gu jT (loM j jT)
        rw [R.bind_ok]
        show R.bind (R.of (maxO (hiL j))) _ = _
        rw [em, R.of_some, R.bind_ok]
        show R.bind (R.of (minO (loL j))) _ = _
        rw [em', R.of_some, R.bind_ok, R.guard_of (szP_lt (by simp at hs; omega)), Int.toNat_natCast, em, em']
        rfl
      rw [inner, R.bind_ok, List.nil_append]
      refine ⟨_, rfl, fun _ => ⟨?_, fun w hw => ?_⟩⟩
      · rw [← List.map_eq_flatMap, List.length_map, lT]
      · obtain ⟨m, em, m1⟩ := step_hi gu hw (hiM w hw)
        obtain ⟨m', em', m1'⟩ := step_lo gu hw (loM w hw)
        refine ⟨m, m', ?_, m1, m1'⟩
        rw [← List.map_eq_flatMap, show (T : Int) + 1 = ((T + 1 : Nat) : Int) by omega, rngI_nat, List.map_map, List.getElem?_map, List.getElem?_range (by omega)]
        simp [em, em']
  rw [e, R.bind_ok]
  rw [Nat.zero_add, rngI_len] at hg
  refine ⟨g, rfl, ?_⟩
  have := hg (by omega)
  rw [show 1 + ((n : Int) - 1 - 0).toNat = n by omega] at this
  exact this
structure Sm11 (n : Nat) (c : Cu) (st : Int) : Prop where
  len : c.length = n
  inc : c.Pairwise fun a b => a.1 < b.1
  head : ∀ p, c.head? = some p → p.1 = 0
  zero : n = 0 → st = 0
  lt : ∀ p ∈ c, p.1 < st
  bd : ∀ p ∈ c, 0 ≤ p.1 ∧ p.2.1.natAbs ≤ 30 ∧ p.2.2.natAbs ≤ 9
  st : 0 ≤ st ∧ st ≤ 5 * n
theorem Sm11.snoc {n : Nat} {c : Cu} {st : Int} (h : Sm11 n c st) {f s d : Int} (hf : f.natAbs ≤ 30) (hs : s.natAbs ≤ 9) (hd : 0 ≤ d ∧ d < 5) : Sm11 (n + 1) (c ++ [(st, f, s)]) (st + 1 + d) := by
  have hst := h.st
  refine ⟨by simp [h.len], ?_, fun p hp => ?_, fun z => by omega, fun p hp => ?_, fun p hp => ?_, by omega⟩
  · rw [List.pairwise_append]
    refine ⟨h.inc, List.pairwise_singleton _ _, fun a ha b hb => ?_⟩
    rw [List.mem_singleton] at hb
    subst hb
    exact h.lt a ha
  · cases c with
    | nil =>
      cases hp
      exact h.zero (by have := h.len; simpa using this.symm)
    | cons a c => exact h.head p hp
  · rcases List.mem_append.mp hp with hp | hp
    · have := h.lt p hp
      omega
    · rw [List.mem_singleton] at hp
      subst hp
      show st < st + 1 + d
      omega
  · rcases List.mem_append.mp hp with hp | hp
    · exact h.bd p hp
    · rw [List.mem_singleton] at hp
      subst hp
      exact ⟨hst.1, hf, hs⟩
theorem Sm11.few {n : Nat} {c : Cu} {st : Int} (h : Sm11 n c st) (h1 : 1 ≤ n) (h2 : n ≤ 5) : Few c := by
  have hl := h.len
  have hst := h.st
  have b : ∀ p ∈ c, 0 ≤ p.1 ∧ p.1 ≤ 25 ∧ p.2.1.natAbs ≤ 30 ∧ p.2.2.natAbs ≤ 9 := fun p hp => by
    have := h.bd p hp
    have := h.lt p hp
    omega
  have hc : Cur c := by
    refine ⟨?_, h.inc, by omega, fun p hp => ?_⟩
    · cases c with
      | nil => simp at hl; omega
      | cons p r => exact ⟨p, r, rfl, h.head p rfl⟩
    · have := b p hp
      unfold bs
      omega
  exact ⟨⟨hc, by omega, fun p hp => by have := b p hp; unfold shortI; omega⟩, by omega, fun p hp => by have := b p hp; omega⟩
theorem small11 {t : Nat} {s : Sc} (hs : Sok t s) (ht : t < 2 ^ 30) : (t100_law_small s).All fun y => Few y.1 ∧ Sok (t + 30) y.2 := by
  unfold t100_law_small
  refine (draw_all hs (size := 5)).draw fun y ⟨y1, y2, y3⟩ => ?_
  refine .guard (show rgOk 0 (1 + y.1) = true from decide_eq_true ⟨by omega, by omega, by omega, by omega⟩) ?_
  have hl : (rngI 0 (1 + y.1)).length = (1 + y.1).toNat := by rw [rngI_len]; simp
  obtain ⟨z, e, hz⟩ := forT_inv (b := (fun (a4 : Int) (u3 : (Sc × (List (Int × Int × Int)) × Int)) => R.draw (t5_law_draw u3.1 61) fun (y5 : Int × Sc) => R.draw (t6_choice (α := Int) y5.2 ([0, 1, 2, 5, (0 - 1), (0 - 4), 9] : (List Int))) fun (y6 : Int × Sc) => R.guard (szP (α := (Int × Int × Int)) u3.2.1) <| R.draw (t5_law_draw y6.2 5) fun (y8 : Int × Sc) => .ok (y8.2, (u3.2.1 ++ [(u3.2.2, (y5.1 - 30), y6.1)]), ((u3.2.2 + 1) + y8.1))))
    (I := fun n (u : Sc × Cu × Int) => n ≤ 5 → Sok (t + 1 + 3 * n) u.1 ∧ Sm11 n u.2.1 u.2.2) (l := rngI 0 (1 + y.1)) (n := 0) (s := (y.2, [], 0)) (fun _ => ⟨y3, ⟨rfl, .nil, fun p h => (by cases h), fun _ => rfl, fun p h => (by cases h), fun p h => (by cases h), ⟨Int.le_refl _, Int.le_refl _⟩⟩⟩) fun i a u hi hI => by
    have il : i < 5 := by
      have := (List.getElem?_eq_some_iff.mp hi).1
      rw [hl] at this
      omega
    obtain ⟨i1, i2⟩ := hI (by omega)
    have ilen := i2.len
    have all : (R.draw (t5_law_draw u.1 61) fun (y5 : Int × Sc) => R.draw (t6_choice (α := Int) y5.2 ([0, 1, 2, 5, (0 - 1), (0 - 4), 9] : (List Int))) fun (y6 : Int × Sc) => R.guard (szP (α := (Int × Int × Int)) u.2.1) <| R.draw (t5_law_draw y6.2 5) fun (y8 : Int × Sc) => R.ok (y8.2, (u.2.1 ++ [(u.2.2, (y5.1 - 30), y6.1)]), ((u.2.2 + 1) + y8.1))).All fun (v : Sc × Cu × Int) => Sok (t + 1 + 3 * (0 + i + 1)) v.1 ∧ Sm11 (0 + i + 1) v.2.1 v.2.2 := by
      refine (draw_all i1 (size := 61)).draw fun y5 ⟨a1, a2, a3⟩ => ?_
      refine (choice_all a3).draw fun y6 ⟨b1, b2⟩ => ?_
      refine .guard (szP_lt (by omega)) ?_
      refine (draw_all b2 (size := 5)).draw fun y8 ⟨c1, c2, c3⟩ => ?_
      refine ⟨_, rfl, c3.mono (by omega), i2.snoc (by omega) ?_ ⟨c1, c2⟩⟩
      simp only [List.mem_cons, List.not_mem_nil, or_false] at b1
      omega
    obtain ⟨v, e, hv⟩ := all
    exact ⟨v, e, fun _ => hv⟩
  rw [e, R.bind_ok]
  rw [Nat.zero_add, hl] at hz
  obtain ⟨z1, z2⟩ := hz (by omega)
  exact ⟨_, rfl, z2.few (by omega) (by omega), z1.mono (by omega)⟩
theorem shows_eq {c : Cu} (h : Few c) {total : Int} (h1 : total ≤ 100) {n : Nat} (hn4 : n ≤ 4) {r : Int × List Int} (r1 : Cmp n total r.2) (r2 : fsum (wv c) r.2 = r.1) : t102_law_shows c total (n : Int) r r.1 = .ok true := by
  obtain ⟨c1, c2, c3⟩ := r1
  have le : ∀ (l : List Int), (∀ x ∈ l, 0 ≤ x) → ∀ x ∈ l, x ≤ l.sum := by
    intro l
    induction l with
    | nil => intro _ x hx; cases hx
    | cons a l ih =>
      intro h x hx
      have a0 := h a List.mem_cons_self
      have l0 := sum_nn fun y hy => h y (List.mem_cons_of_mem _ hy)
      rw [List.sum_cons]
      rcases List.mem_cons.mp hx with rfl | hx
      · omega
      · have := ih (fun y hy => h y (List.mem_cons_of_mem _ hy)) x hx
        omega
  unfold t102_law_shows
  have q1 : ((r.2.length : Nat) : Int) = n := by omega
  rw [if_neg (by simp), if_neg (by decide), if_neg (by simp [q1]), R.guard_of (szL_le (by omega))]
  rw [filR_of (g := id) (q := fun _ => false) fun x hx => ?_]
  · have e : r.2.filter (fun _ => false) = [] := List.filter_eq_nil_iff.mpr (by simp)
    simp only [R.bind_ok, e, List.map_nil]
    rw [if_neg (by simp), if_pos (by simpa using c3), R.guard_of (szL_le (by omega))]
    rw [mapR_of (g := wv c) fun x hx => ?_]
    · simp only [R.bind_ok]
      have : (r.2.map (wv c)).sum = r.1 := r2
      simp [this]
    · rw [at_eqb h.short.cur (c2 x hx) (by have := le _ c2 x hx; have := c2 x hx; unfold bg; omega)]
      rfl
  · have x0 := c2 x hx
    have : ¬ x < 0 := by omega
    have w : t28_law_is_whole x = .ok true := rfl
    simp [w, this]
theorem law11 (ns : List Int) (hn : ns.length ≤ 63) : t103_law ns = .ok true := by
  unfold t103_law
  rw [R.guard_of (cells_len 0 ns hn), forC_all fun cell _ => ?_]
  · rfl
  obtain ⟨s1, e1, h1⟩ := source_all cell 11
  rw [show t4_law_source cell 11 = .ok s1 from e1, R.bind_ok]
  obtain ⟨⟨c, s2⟩, e2, hc, h2⟩ := small11 h1 (by decide)
  simp only at hc h2
  rw [e2, R.draw_ok]
  obtain ⟨⟨tt, s3⟩, e3, t0, t1, h3⟩ := draw_all h2 (size := 31)
  simp only at t0 t1 h3 ⊢
  rw [e3, R.draw_ok]
  obtain ⟨⟨p, s4⟩, e4, p0, p1, h4⟩ := draw_all h3 (size := 4)
  simp only at p0 p1 ⊢
  rw [e4, R.draw_ok]
  obtain ⟨T, rfl⟩ : ∃ T : Nat, tt = T := ⟨tt.toNat, by omega⟩
  obtain ⟨n, hn'⟩ : ∃ n : Nat, 1 + p = n := ⟨(1 + p).toNat, by omega⟩
  simp only [hn']
  obtain ⟨g, eg, hg⟩ := sums_eq hc (T := T) (by omega) (n := n) (by omega) (by omega)
  obtain ⟨a, b, ix, hi, lo⟩ := hg.2 T (Nat.le_refl _)
  rw [eg, R.bind_ok, ixR_nat, ix, R.of_some, R.bind_ok]
  obtain ⟨r, er, r1, r2, r3⟩ := best_eq hc (total := (T : Int)) (by omega) (by omega) (n := n) (by omega) (by omega)
  obtain ⟨w, ew, w1, w2, w3⟩ := worst_eq hc (total := (T : Int)) (by omega) (by omega) (n := n) (by omega) (by omega)
  rw [er, R.bind_ok]
  simp only
  rw [hi.uniq r3, shows_eq hc (by omega) (by omega) r1 r2]
  simp only [R.bind_ok, Bool.not_true, Bool.false_eq_true, if_false]
  rw [ew, R.bind_ok, lo.uniq w3, shows_eq hc (by omega) (by omega) w1 w2]
  rfl
end Tp
namespace Tp
open PySem
theorem s1 {H : PG} [C1 H] {n : Nat} (v_value : Int) : Sim (run H (n + 1) 1 [PyData.int v_value]) (t1_is_integer v_value) PyData.bool noneD := by
  refine fn_sim (n := n + 0) (fd := f1_is_integer) C1.h_1 rfl rfl (p0 := [some (.val (PyData.int v_value))]) rfl ?_
  unfold t1_is_integer
  refine k_cons ?_
  refine k_ret ?_
  refine e_and ?_
  refine and_v (y := fun _ => true) ?_
  refine b_e ?_
  refine e_isi1 ?_
  refine o_val rfl ?_
  refine ce_op1 (.v _) rfl ?_
  refine ce_asB ?_
  refine ⟨fun hk1 => ?_, ?_⟩
  · refine and_1 ?_
    refine e_not ?_
    refine b_e ?_
    refine e_isi1 ?_
    refine o_val rfl ?_
    refine ce_op1 (.v _) rfl ?_
    refine ce_asB ?_
    exact ⟨rfl, Weak.refl⟩
  exact fun e f => .rt ⟨rfl, rfl⟩
theorem s4 {H : PG} [C4 H] {n : Nat} (v_cell : Int) (v_turn : Int) : Sim (run H (n + 1) 4 [PyData.int v_cell, PyData.int v_turn]) (t4_law_source v_cell v_turn) eX noneD := by
  refine fn_sim (n := n + 0) (fd := f4_law_source) C4.h_4 rfl rfl (p0 := [some (.val (PyData.int v_cell)), some (.val (PyData.int v_turn))]) rfl ?_
  unfold t4_law_source
  refine k_cons ?_
  refine k_ite ?_
  refine b_e ?_
  refine e_cmp ?_
  refine o_val rfl ?_
  refine o_e rfl ?_
  refine e_bin ?_
  refine o_e rfl ?_
  refine e_lit ?_
  refine o_e rfl ?_
  refine e_lit ?_
  refine ce_op2 (.v _) (.v _) (pow_i 10 18 1000000000000000000 (by decide) (by decide)) ?_
  refine ce_op2 (.v _) (.v _) (ge_i _ _) ?_
  refine ce_asB ?_
  refine ⟨_, _, rfl, fun hk1 => ?_, fun hk1 => ?_⟩
  · refine k_cons ?_
    refine k_ret ?_
    refine e_lst ?_
    refine a_cons ?_
    refine o_e rfl ?_
    refine e_bin ?_
    refine o_val rfl ?_
    refine o_e rfl ?_
    refine e_bin ?_
    refine o_e rfl ?_
    refine e_lit ?_
    refine o_e rfl ?_
    refine e_lit ?_
    refine ce_op2 (.v _) (.v _) (pow_i 10 18 1000000000000000000 (by decide) (by decide)) ?_
    refine ce_op2 (.v _) (.v _) (sub_i v_cell 1000000000000000000) ?_
    refine a_cons ?_
    refine o_e rfl ?_
    refine e_bin ?_
    refine o_e rfl ?_
    refine e_bi ?_
    refine a_cons ?_
    refine o_val rfl ?_
    refine a_nil ?_
    refine ce_opN (.cons (.v _) .nil) (int_i _) ?_
    refine o_e rfl ?_
    refine e_lit ?_
    refine ce_op2 (.v _) (.v _) (mod_i v_cell 2147483579 (by decide)) ?_
    refine a_cons ?_
    refine o_val rfl ?_
    refine a_nil ?_
    refine ce_lst (.cons (.cons (.cons .nil))) rfl ?_
    exact fun e f => .rt ⟨rfl, rfl⟩
  · refine k_nil ?_
    refine k_cons ?_
    refine k_ret ?_
    refine e_lst ?_
    refine a_cons ?_
    refine o_e rfl ?_
    refine e_lit ?_
    refine a_cons ?_
    refine o_e rfl ?_
    refine e_bin ?_
    refine o_e rfl ?_
    refine e_bi ?_
    refine a_cons ?_
    refine o_val rfl ?_
    refine a_nil ?_
    refine ce_opN (.cons (.v _) .nil) (int_i _) ?_
    refine o_e rfl ?_
    refine e_lit ?_
    refine ce_op2 (.v _) (.v _) (mod_i v_cell 2147483579 (by decide)) ?_
    refine a_cons ?_
    refine o_val rfl ?_
    refine a_nil ?_
    refine ce_lst (.cons (.cons (.cons .nil))) rfl ?_
    exact fun e f => .rt ⟨rfl, rfl⟩
theorem s5 {H : PG} [C5 H] {n : Nat} (v_source : Sc) (v_size : Int) : SimI (run H (n + 1) 5 [eX v_source, PyData.int v_size]) (t5_law_draw v_source v_size) (fun y => PyData.int y.1) (fun y => eX y.2) := by
  refine fn_simI (i := 0) (n := n + 0) (fd := f5_law_draw) C5.h_5 rfl rfl (p0 := [some (.io (eX v_source)), some (.val (PyData.int v_size)), none, none]) rfl ?_
  unfold t5_law_draw
  refine k_cons ?_
  refine k_ite ?_
  refine b_e ?_
  refine e_cmp ?_
  refine o_e rfl ?_
  refine e_ix ?_
  refine o_io rfl ?_
  refine o_e rfl ?_
  refine e_lit ?_
  refine ce_op2 (.io rfl) (.v _) (ix_litL 0 rfl) ?_
  refine o_e rfl ?_
  refine e_lit ?_
  refine ce_op2 (.v _) (.v _) (gt_i _ _) ?_
  refine ce_asB ?_
  refine ⟨_, _, rfl, fun hk1 => ?_, fun hk1 => ?_⟩
  · refine k_cons ?_
    refine k_asg ?_
    refine e_bin ?_
    refine o_e rfl ?_
    refine e_bi ?_
    refine a_cons ?_
    refine o_e rfl ?_
    refine e_ix ?_
    refine o_io rfl ?_
    refine o_e rfl ?_
    refine e_lit ?_
    refine ce_op2 (.io rfl) (.v _) (ix_litL 0 rfl) ?_
    refine a_nil ?_
    refine ce_opN (.cons (.v _) .nil) (int_i _) ?_
    refine o_val rfl ?_
    refine ce_guard fun hg3 => ?_
    refine ce_op2 (.v _) (.v _) (mod_i v_source.1 v_size hg3) ?_
    refine ⟨[some (.io (eX v_source)), some (.val (PyData.int v_size)), some (.val (PyData.int (Int.fmod v_source.1 v_size))), none], rfl, ?_⟩
    refine k_cons ?_
    refine k_set ?_
    refine e_bin ?_
    refine o_e rfl ?_
    refine e_ix ?_
    refine o_io rfl ?_
    refine o_e rfl ?_
    refine e_lit ?_
    refine ce_op2 (.io rfl) (.v _) (ix_litL 0 rfl) ?_
    refine o_val rfl ?_
    refine ce_guard fun hg2 => ?_
    refine ce_op2 (.v _) (.v _) (div_i v_source.1 v_size hg2) ?_
    refine ⟨_, _, .io rfl, ?_⟩
    refine e_lit ?_
    refine cs_chg (d' := eX ((Int.fdiv v_source.1 v_size), v_source.2.1, v_source.2.2)) (.io rfl) rfl ?_
    refine cs_norm (p' := [some (.io (eX ((Int.fdiv v_source.1 v_size), v_source.2.1, v_source.2.2))), some (.val (PyData.int v_size)), some (.val (PyData.int (Int.fmod v_source.1 v_size))), none]) rfl ?_
    refine k_cons ?_
    refine k_ret ?_
    refine e_var rfl ?_
    exact fun e f => .rt ⟨rfl, fit_get f rfl⟩
  · refine k_nil ?_
    refine k_cons ?_
    refine k_set ?_
    refine e_bin ?_
    refine o_e rfl ?_
    refine e_ix ?_
    refine o_io rfl ?_
    refine o_e rfl ?_
    refine e_lit ?_
    refine ce_op2 (.io rfl) (.v _) (ix_litL 2 rfl) ?_
    refine o_e rfl ?_
    refine e_lit ?_
    refine ce_op2 (.v _) (.v _) (add_i v_source.2.2 1) ?_
    refine ⟨_, _, .io rfl, ?_⟩
    refine e_lit ?_
    refine cs_chg (d' := eX (v_source.1, v_source.2.1, (v_source.2.2 + 1))) (.io rfl) rfl ?_
    refine cs_norm (p' := [some (.io (eX (v_source.1, v_source.2.1, (v_source.2.2 + 1)))), some (.val (PyData.int v_size)), none, none]) rfl ?_
    refine k_cons ?_
    refine k_asg ?_
    refine e_bin ?_
    refine o_e rfl ?_
    refine e_bi ?_
    refine a_cons ?_
    refine o_e rfl ?_
    refine e_bin ?_
    refine o_e rfl ?_
    refine e_bin ?_
    refine o_e rfl ?_
    refine e_ix ?_
    refine o_io rfl ?_
    refine o_e rfl ?_
    refine e_lit ?_
    refine ce_op2 (.io rfl) (.v _) (ix_litL 1 rfl) ?_
    refine o_e rfl ?_
    refine e_bin ?_
    refine o_e rfl ?_
    refine e_lit ?_
    refine o_e rfl ?_
    refine e_ix ?_
    refine o_io rfl ?_
    refine o_e rfl ?_
    refine e_lit ?_
    refine ce_op2 (.io rfl) (.v _) (ix_litL 2 rfl) ?_
    refine ce_guard fun hg8 => ?_
    refine ce_op2 (.v _) (.v _) (mul_i 15485867 (v_source.1, v_source.2.1, (v_source.2.2 + 1)).2.2 hg8) ?_
    refine ce_op2 (.v _) (.v _) (add_i (v_source.1, v_source.2.1, (v_source.2.2 + 1)).2.1 (15485867 * (v_source.1, v_source.2.1, (v_source.2.2 + 1)).2.2)) ?_
    refine o_e rfl ?_
    refine e_lit ?_
    refine ce_guard fun hg7 => ?_
    refine ce_op2 (.v _) (.v _) (pow_i ((v_source.1, v_source.2.1, (v_source.2.2 + 1)).2.1 + (15485867 * (v_source.1, v_source.2.1, (v_source.2.2 + 1)).2.2)) 5 _ hg7 rfl) ?_
    refine a_nil ?_
    refine ce_opN (.cons (.v _) .nil) (int_i _) ?_
    refine o_e rfl ?_
    refine e_lit ?_
    refine ce_op2 (.v _) (.v _) (mod_i (((v_source.1, v_source.2.1, (v_source.2.2 + 1)).2.1 + (15485867 * (v_source.1, v_source.2.1, (v_source.2.2 + 1)).2.2)) ^ Int.toNat 5) 2147483647 (by decide)) ?_
    refine ⟨[some (.io (eX (v_source.1, v_source.2.1, (v_source.2.2 + 1)))), some (.val (PyData.int v_size)), none, some (.val (PyData.int (Int.fmod (((v_source.1, v_source.2.1, (v_source.2.2 + 1)).2.1 + (15485867 * (v_source.1, v_source.2.1, (v_source.2.2 + 1)).2.2)) ^ Int.toNat 5) 2147483647)))], rfl, ?_⟩
    refine k_cons ?_
    refine k_asg ?_
    refine e_bin ?_
    refine o_e rfl ?_
    refine e_bin ?_
    refine o_e rfl ?_
    refine e_bi ?_
    refine a_cons ?_
    refine o_e rfl ?_
    refine e_bin ?_
    refine o_e rfl ?_
    refine e_bin ?_
    refine o_val rfl ?_
    refine o_e rfl ?_
    refine e_bin ?_
    refine o_e rfl ?_
    refine e_lit ?_
    refine o_e rfl ?_
    refine e_ix ?_
    refine o_io rfl ?_
    refine o_e rfl ?_
    refine e_lit ?_
    refine ce_op2 (.io rfl) (.v _) (ix_litL 2 rfl) ?_
    refine ce_guard fun hg6 => ?_
    refine ce_op2 (.v _) (.v _) (mul_i 7919 (v_source.1, v_source.2.1, (v_source.2.2 + 1)).2.2 hg6) ?_
    refine ce_op2 (.v _) (.v _) (add_i (Int.fmod (((v_source.1, v_source.2.1, (v_source.2.2 + 1)).2.1 + (15485867 * (v_source.1, v_source.2.1, (v_source.2.2 + 1)).2.2)) ^ Int.toNat 5) 2147483647) (7919 * (v_source.1, v_source.2.1, (v_source.2.2 + 1)).2.2)) ?_
    refine o_e rfl ?_
    refine e_lit ?_
    refine ce_guard fun hg5 => ?_
    refine ce_op2 (.v _) (.v _) (pow_i ((Int.fmod (((v_source.1, v_source.2.1, (v_source.2.2 + 1)).2.1 + (15485867 * (v_source.1, v_source.2.1, (v_source.2.2 + 1)).2.2)) ^ Int.toNat 5) 2147483647) + (7919 * (v_source.1, v_source.2.1, (v_source.2.2 + 1)).2.2)) 3 _ hg5 rfl) ?_
    refine a_nil ?_
    refine ce_opN (.cons (.v _) .nil) (int_i _) ?_
    refine o_e rfl ?_
    refine e_lit ?_
    refine ce_op2 (.v _) (.v _) (mod_i (((Int.fmod (((v_source.1, v_source.2.1, (v_source.2.2 + 1)).2.1 + (15485867 * (v_source.1, v_source.2.1, (v_source.2.2 + 1)).2.2)) ^ Int.toNat 5) 2147483647) + (7919 * (v_source.1, v_source.2.1, (v_source.2.2 + 1)).2.2)) ^ Int.toNat 3) 2147483629 (by decide)) ?_
    refine o_e rfl ?_
    refine e_lit ?_
    refine ce_op2 (.v _) (.v _) (div_i (Int.fmod (((Int.fmod (((v_source.1, v_source.2.1, (v_source.2.2 + 1)).2.1 + (15485867 * (v_source.1, v_source.2.1, (v_source.2.2 + 1)).2.2)) ^ Int.toNat 5) 2147483647) + (7919 * (v_source.1, v_source.2.1, (v_source.2.2 + 1)).2.2)) ^ Int.toNat 3) 2147483629) 32 (by decide)) ?_
    refine ⟨[some (.io (eX (v_source.1, v_source.2.1, (v_source.2.2 + 1)))), some (.val (PyData.int v_size)), some (.val (PyData.int (Int.fdiv (Int.fmod (((Int.fmod (((v_source.1, v_source.2.1, (v_source.2.2 + 1)).2.1 + (15485867 * (v_source.1, v_source.2.1, (v_source.2.2 + 1)).2.2)) ^ Int.toNat 5) 2147483647) + (7919 * (v_source.1, v_source.2.1, (v_source.2.2 + 1)).2.2)) ^ Int.toNat 3) 2147483629) 32))), some (.val (PyData.int (Int.fmod (((v_source.1, v_source.2.1, (v_source.2.2 + 1)).2.1 + (15485867 * (v_source.1, v_source.2.1, (v_source.2.2 + 1)).2.2)) ^ Int.toNat 5) 2147483647)))], rfl, ?_⟩
    refine k_cons ?_
    refine k_ret ?_
    refine e_bin ?_
    refine o_e rfl ?_
    refine e_bi ?_
    refine a_cons ?_
    refine o_val rfl ?_
    refine a_nil ?_
    refine ce_opN (.cons (.v _) .nil) (int_i _) ?_
    refine o_val rfl ?_
    refine ce_guard fun hg4 => ?_
    refine ce_op2 (.v _) (.v _) (mod_i (Int.fdiv (Int.fmod (((Int.fmod (((v_source.1, v_source.2.1, (v_source.2.2 + 1)).2.1 + (15485867 * (v_source.1, v_source.2.1, (v_source.2.2 + 1)).2.2)) ^ Int.toNat 5) 2147483647) + (7919 * (v_source.1, v_source.2.1, (v_source.2.2 + 1)).2.2)) ^ Int.toNat 3) 2147483629) 32) v_size hg4) ?_
    exact fun e f => .rt ⟨rfl, fit_get f rfl⟩
theorem s8b {H : PG} [C8 H] {n : Nat} (v_curve : (List (Int × Int × Int))) (v_x : Int) : Sim (run H (n + 1) 8 [(eU (eT3 PyData.int PyData.int PyData.int)) v_curve, PyData.int v_x]) (t8b_law_at v_curve v_x) PyData.int noneD := by
  refine fn_sim (n := n + 0) (fd := f8_law_at) C8.h_8 rfl rfl (p0 := [some (.val ((eU (eT3 PyData.int PyData.int PyData.int)) v_curve)), some (.val (PyData.int v_x)), none, none, none, none]) rfl ?_
  unfold t8b_law_at
  refine k_cons ?_
  refine k_asg ?_
  refine e_ix ?_
  refine o_e rfl ?_
  refine e_lc ?_
  refine s_var ?_
  refine o_val rfl ?_
  refine s_tuple ?_
  refine ⟨rfl, ?_⟩
  refine ce_fil (g := (eT3 PyData.int PyData.int PyData.int)) (v := (eT3 PyData.int PyData.int PyData.int)) rfl rfl rfl (fun a1 => ⟨_, rfl, ?_⟩) (fun y3 => ?_)
  · unfold Elt
    refine b_e ?_
    refine e_cmp ?_
    refine o_e rfl ?_
    refine e_ix ?_
    refine o_val rfl ?_
    refine o_e rfl ?_
    refine e_lit ?_
    refine ce_op2 (.v _) (.v _) (ix_lit 0 rfl) ?_
    refine o_val rfl ?_
    refine ce_op2 (.v _) (.v _) (le_i _ _) ?_
    refine ce_asB ?_
    refine elt_if (fun hk2 => ?_) (.same (.same (.same (.same (.same (.drop trivial .nil))))))
    refine e_var rfl ?_
    exact ⟨a1, rfl, rfl, (.same (.same (.same (.same (.same (.drop trivial .nil))))))⟩
  refine o_e rfl ?_
  refine e_neg ?_
  refine o_e rfl ?_
  refine e_lit ?_
  refine ce_op1 (.v _) (neg_i _) ?_
  refine ce_of fun y4 hy5 => ?_
  refine ce_op2 (.v _) (.v _) (ix_L (e := (eT3 PyData.int PyData.int PyData.int)) hy5) ?_
  refine ⟨[some (.val ((eU (eT3 PyData.int PyData.int PyData.int)) v_curve)), some (.val (PyData.int v_x)), some (.val (PyData.int y4.1)), some (.val (PyData.int y4.2.1)), some (.val (PyData.int y4.2.2)), none], rfl, ?_⟩
  refine k_cons ?_
  refine k_ret ?_
  refine e_bin ?_
  refine o_val rfl ?_
  refine o_e rfl ?_
  refine e_bin ?_
  refine o_val rfl ?_
  refine o_e rfl ?_
  refine e_bin ?_
  refine o_val rfl ?_
  refine o_val rfl ?_
  refine ce_op2 (.v _) (.v _) (sub_i v_x y4.1) ?_
  refine ce_guard fun hg6 => ?_
  refine ce_op2 (.v _) (.v _) (mul_i y4.2.2 (v_x - y4.1) hg6) ?_
  refine ce_op2 (.v _) (.v _) (add_i y4.2.1 (y4.2.2 * (v_x - y4.1))) ?_
  exact fun e f => .rt ⟨rfl, rfl⟩
theorem s18 {H : PG} [C18 H] {n : Nat} (v_curve : (List (Int × Int × Int))) (v_x : Int) : Sim (run H (n + 1) 18 [(eU (eT3 PyData.int PyData.int PyData.int)) v_curve, PyData.int v_x]) (t18_piece_at v_curve v_x) (eT3 PyData.int PyData.int PyData.int) noneD := by
  refine fn_sim (n := n + 0) (fd := f18_piece_at) C18.h_18 rfl rfl (p0 := [some (.val ((eU (eT3 PyData.int PyData.int PyData.int)) v_curve)), some (.val (PyData.int v_x)), none, none]) rfl ?_
  unfold t18_piece_at
  refine k_cons ?_
  refine k_asg ?_
  refine e_ix ?_
  refine o_val rfl ?_
  refine o_e rfl ?_
  refine e_lit ?_
  refine ce_of fun y1 hy2 => ?_
  refine ce_op2 (.v _) (.v _) (ix_U (e := (eT3 PyData.int PyData.int PyData.int)) hy2) ?_
  refine ⟨[some (.val ((eU (eT3 PyData.int PyData.int PyData.int)) v_curve)), some (.val (PyData.int v_x)), some (.val ((eT3 PyData.int PyData.int PyData.int) y1)), none], rfl, ?_⟩
  refine k_cons ?_
  refine k_for ?_
  refine s_var ?_
  refine o_val rfl ?_
  refine s_tuple ?_
  refine ⟨rfl, ?_⟩
  refine cs_forT (g := (eT3 PyData.int PyData.int PyData.int)) (s0 := y1) (fun (u3 : (Int × Int × Int)) => [some (.val ((eU (eT3 PyData.int PyData.int PyData.int)) v_curve)), some (.val (PyData.int v_x)), some (.val ((eT3 PyData.int PyData.int PyData.int) u3)), none]) rfl (.same (.same (.same (.same .nil)))) (fun _ => rfl) (fun a4 u3 => ⟨_, rfl, k_tail ?_⟩) (fun u3 => ?_)
  · refine k_cons ?_
    refine k_sub (σ := (Int × Int × Int)) (fun (u5 : (Int × Int × Int)) => [some (.val ((eU (eT3 PyData.int PyData.int PyData.int)) v_curve)), some (.val (PyData.int v_x)), some (.val ((eT3 PyData.int PyData.int PyData.int) u5)), some (.val ((eT3 PyData.int PyData.int PyData.int) a4))]) ?_ ?_
    · refine k_ite ?_
      refine b_e ?_
      refine e_cmp ?_
      refine o_e rfl ?_
      refine e_ix ?_
      refine o_val rfl ?_
      refine o_e rfl ?_
      refine e_lit ?_
      refine ce_op2 (.v _) (.v _) (ix_lit 0 rfl) ?_
      refine o_val rfl ?_
      refine ce_op2 (.v _) (.v _) (le_i _ _) ?_
      refine ce_asB ?_
      refine ⟨_, _, rfl, fun hk6 => ?_, fun hk6 => ?_⟩
      · refine k_cons ?_
        refine k_asg ?_
        refine e_var rfl ?_
        refine ⟨[some (.val ((eU (eT3 PyData.int PyData.int PyData.int)) v_curve)), some (.val (PyData.int v_x)), some (.val ((eT3 PyData.int PyData.int PyData.int) a4)), some (.val ((eT3 PyData.int PyData.int PyData.int) a4))], rfl, ?_⟩
        refine k_nil ?_
        exact goq (s := a4) (.same (.same (.same (.same .nil))))
      · refine k_nil ?_
        exact goq (s := u3) (.same (.same (.same (.same .nil))))
    intro u5
    refine k_nil ?_
    exact tt_nx (s := u5) (.same (.same (.same (.drop trivial .nil))))
  refine k_cons ?_
  refine k_ret ?_
  refine e_var rfl ?_
  exact fun e f => .rt ⟨rfl, rfl⟩
theorem s28 {H : PG} [C28 H] {n : Nat} (v_value : Int) : Sim (run H (n + 1) 28 [PyData.int v_value]) (t28_law_is_whole v_value) PyData.bool noneD := by
  refine fn_sim (n := n + 0) (fd := f28_law_is_whole) C28.h_28 rfl rfl (p0 := [some (.val (PyData.int v_value))]) rfl ?_
  unfold t28_law_is_whole
  refine k_cons ?_
  refine k_ret ?_
  refine e_and ?_
  refine and_v (y := fun _ => true) ?_
  refine b_e ?_
  refine e_isi1 ?_
  refine o_val rfl ?_
  refine ce_op1 (.v _) rfl ?_
  refine ce_asB ?_
  refine ⟨fun hk1 => ?_, ?_⟩
  · refine and_1 ?_
    refine e_not ?_
    refine b_e ?_
    refine e_isi1 ?_
    refine o_val rfl ?_
    refine ce_op1 (.v _) rfl ?_
    refine ce_asB ?_
    exact ⟨rfl, Weak.refl⟩
  exact fun e f => .rt ⟨rfl, rfl⟩
theorem s75 {H : PG} [C75 H] {n : Nat} (v_curve : (List (Int × Int × Int))) : Sim (run H (n + 1) 75 [(eU (eT3 PyData.int PyData.int PyData.int)) v_curve]) (t75_corners v_curve) (eL PyData.int) noneD := by
  refine fn_sim (n := n + 0) (fd := f75_corners) C75.h_75 rfl rfl (p0 := [some (.val ((eU (eT3 PyData.int PyData.int PyData.int)) v_curve)), none, none, none]) rfl ?_
  unfold t75_corners
  refine k_cons ?_
  refine k_asg ?_
  refine e_lc ?_
  refine s_var ?_
  refine o_val rfl ?_
  refine s_tuple ?_
  refine ⟨rfl, ?_⟩
  refine ce_map (g := (eT3 PyData.int PyData.int PyData.int)) (v := PyData.int) rfl rfl rfl (fun a1 => ⟨_, rfl, ?_⟩) (fun y2 => ?_)
  · refine e_ix ?_
    refine o_val rfl ?_
    refine o_e rfl ?_
    refine e_lit ?_
    refine ce_op2 (.v _) (.v _) (ix_lit 0 rfl) ?_
    exact ⟨a1.1, rfl, rfl, (.same (.same (.drop trivial (.same .nil))))⟩
  refine ⟨[some (.val ((eU (eT3 PyData.int PyData.int PyData.int)) v_curve)), some (.val ((eL PyData.int) y2)), none, none], rfl, ?_⟩
  refine k_cons ?_
  refine k_ret ?_
  refine e_srt ?_
  refine o_e rfl ?_
  refine e_bin ?_
  refine o_val rfl ?_
  refine o_e rfl ?_
  refine e_lc ?_
  refine s_var ?_
  refine o_val rfl ?_
  refine s_list ?_
  refine ⟨rfl, ?_⟩
  refine ce_fil (g := PyData.int) (v := PyData.int) rfl rfl rfl (fun a3 => ⟨_, rfl, ?_⟩) (fun y5 => ?_)
  · unfold Elt
    refine b_e ?_
    refine e_cmp ?_
    refine o_val rfl ?_
    refine o_e rfl ?_
    refine e_lit ?_
    refine ce_op2 (.v _) (.v _) (gt_i _ _) ?_
    refine ce_asB ?_
    refine elt_if (fun hk4 => ?_) (.same (.same (.same (.drop trivial .nil))))
    refine e_bin ?_
    refine o_val rfl ?_
    refine o_e rfl ?_
    refine e_lit ?_
    refine ce_op2 (.v _) (.v _) (sub_i a3 1) ?_
    exact ⟨(a3 - 1), rfl, rfl, (.same (.same (.same (.drop trivial .nil))))⟩
  refine ce_guard fun hg7 => ?_
  refine ce_op2 (.v _) (.v _) (add_L (e := PyData.int) (xs := y2) (ys := y5) hg7) ?_
  refine ce_guard fun hg6 => ?_
  refine ce_op1 (.v _) (srt_L hg6) ?_
  exact fun e f => .rt ⟨rfl, rfl⟩
theorem s6l {H : PG} [C6 H] {n : Nat} {α : Type} (ev : α → D) (v_source : Sc) (v_items : (List α)) : SimI (run H (n + 2) 6 [eX v_source, (eL ev) v_items]) (t6_choice v_source v_items) (fun y => ev y.1) (fun y => eX y.2) := by
  refine fn_simI (i := 0) (n := n + 1) (fd := f6_law_choice) C6.h_6 rfl rfl (p0 := [some (.io (eX v_source)), some (.val ((eL ev) v_items))]) rfl ?_
  unfold t6_choice
  refine k_cons ?_
  refine k_ret ?_
  refine e_ix ?_
  refine o_val rfl ?_
  refine o_e rfl ?_
  refine e_call (I_5 (H := H)) ?_
  refine a_cons ?_
  refine o_io rfl ?_
  refine a_cons ?_
  refine o_e rfl ?_
  refine e_bi ?_
  refine a_cons ?_
  refine o_val rfl ?_
  refine a_nil ?_
  refine ce_opN (.cons (.v _) .nil) (len_L (e := ev) _) ?_
  refine a_nil ?_
  refine ce_callI (.io rfl) (.here (.cons .nil)) (s5 (n := n + 0) v_source ((List.length v_items : Nat) : Int)) ?_
  intro y1
  refine ce_of fun y2 hy3 => ?_
  refine ce_op2 (.v _) (.v _) (ix_L (e := ev) hy3) ?_
  exact fun e f => .rt ⟨rfl, fit_get f rfl⟩
theorem s6u {H : PG} [C6 H] {n : Nat} {α : Type} (ev : α → D) (v_source : Sc) (v_items : (List α)) : SimI (run H (n + 2) 6 [eX v_source, (eU ev) v_items]) (t6_choice v_source v_items) (fun y => ev y.1) (fun y => eX y.2) := by
  refine fn_simI (i := 0) (n := n + 1) (fd := f6_law_choice) C6.h_6 rfl rfl (p0 := [some (.io (eX v_source)), some (.val ((eU ev) v_items))]) rfl ?_
  unfold t6_choice
  refine k_cons ?_
  refine k_ret ?_
  refine e_ix ?_
  refine o_val rfl ?_
  refine o_e rfl ?_
  refine e_call (I_5 (H := H)) ?_
  refine a_cons ?_
  refine o_io rfl ?_
  refine a_cons ?_
  refine o_e rfl ?_
  refine e_bi ?_
  refine a_cons ?_
  refine o_val rfl ?_
  refine a_nil ?_
  refine ce_opN (.cons (.v _) .nil) (len_U (e := ev) _) ?_
  refine a_nil ?_
  refine ce_callI (.io rfl) (.here (.cons .nil)) (s5 (n := n + 0) v_source ((List.length v_items : Nat) : Int)) ?_
  intro y1
  refine ce_of fun y2 hy3 => ?_
  refine ce_op2 (.v _) (.v _) (ix_U (e := ev) hy3) ?_
  exact fun e f => .rt ⟨rfl, fit_get f rfl⟩

def t7i_law_equal (v_found : Int) (v_meant : Int) : R Bool :=
  .ok (decide (v_found = v_meant))
theorem s7i {H : PG} [C7 H] {n : Nat} (v_found : Int) (v_meant : Int) : Sim (run H (n + 1) 7 [PyData.int v_found, PyData.int v_meant]) (t7i_law_equal v_found v_meant) PyData.bool noneD := by
  refine fn_sim (n := n) (fd := f7_law_equal) C7.h_7 rfl rfl (p0 := [some (.val (PyData.int v_found)), some (.val (PyData.int v_meant)), none]) rfl ?_
  unfold t7i_law_equal
  refine k_cons ?_
  refine k_ite ?_
  refine b_e ?_
  refine e_or ?_
  refine or_v (y := fun _ => false) ?_
  refine b_e ?_
  refine e_isi1 ?_
  refine o_val rfl ?_
  refine ce_op1 (.v _) rfl ?_
  refine ce_asB ?_
  refine ⟨fun hk7 => ?_, ?_⟩
  · refine or_1 ?_
    refine e_isi1 ?_
    refine o_val rfl ?_
    refine ce_op1 (.v _) rfl ?_
    exact ⟨rfl, Weak.refl⟩
  refine ce_asB ?_
  refine ⟨.bad, _, (if_neg Bool.false_ne_true).symm, fun h => absurd h Bool.false_ne_true, fun _ => ?_⟩
  refine k_nil ?_
  refine k_cons ?_
  refine k_ite ?_
  refine b_e ?_
  refine e_or ?_
  refine or_v (y := fun _ => false) ?_
  refine b_e ?_
  refine e_cmp ?_
  refine o_val rfl ?_
  refine o_e rfl ?_
  refine e_lit ?_
  refine ce_op2 (.v _) (.v _) (rfl) ?_
  refine ce_asB ?_
  refine ⟨fun hk6 => ?_, ?_⟩
  · refine or_1 ?_
    refine e_cmp ?_
    refine o_val rfl ?_
    refine o_e rfl ?_
    refine e_lit ?_
    refine ce_op2 (.v _) (.v _) (rfl) ?_
    exact ⟨rfl, Weak.refl⟩
  refine ce_asB ?_
  refine ⟨.bad, _, (if_neg Bool.false_ne_true).symm, fun h => absurd h Bool.false_ne_true, fun _ => ?_⟩
  refine k_nil ?_
  refine k_cons ?_
  refine k_ite ?_
  refine b_e ?_
  refine e_isi2 ?_
  refine o_val rfl ?_
  refine ce_op1 (.v _) rfl ?_
  refine ce_asB ?_
  refine ⟨.bad, _, (if_neg Bool.false_ne_true).symm, fun h => absurd h Bool.false_ne_true, fun _ => ?_⟩
  refine k_nil ?_
  refine k_cons ?_
  refine k_ite ?_
  refine b_e ?_
  refine e_isi1 ?_
  refine o_val rfl ?_
  refine ce_op1 (.v _) rfl ?_
  refine ce_asB ?_
  refine ⟨.bad, _, (if_neg Bool.false_ne_true).symm, fun h => absurd h Bool.false_ne_true, fun _ => ?_⟩
  refine k_nil ?_
  refine k_cons ?_
  refine k_ret ?_
  refine e_and ?_
  refine and_v (y := fun _ => (decide (v_found = v_meant))) ?_
  refine b_e ?_
  refine e_isi1 ?_
  refine o_val rfl ?_
  refine ce_op1 (.v _) rfl ?_
  refine ce_asB ?_
  refine ⟨fun hk5 => ?_, ?_⟩
  · refine and_1 ?_
    refine e_cmp ?_
    refine o_val rfl ?_
    refine o_val rfl ?_
    refine ce_op2 (.v _) (.v _) (eq_T (eqT_int) (by decide) v_found v_meant) ?_
    exact ⟨rfl, Weak.refl⟩
  exact fun e f => .rt ⟨rfl, rfl⟩
def t7b_law_equal (v_found : Bool) (v_meant : Bool) : R Bool :=
  .ok (decide (v_meant = v_found))
theorem s7b {H : PG} [C7 H] {n : Nat} (v_found : Bool) (v_meant : Bool) : Sim (run H (n + 1) 7 [PyData.bool v_found, PyData.bool v_meant]) (t7b_law_equal v_found v_meant) PyData.bool noneD := by
  refine fn_sim (n := n) (fd := f7_law_equal) C7.h_7 rfl rfl (p0 := [some (.val (PyData.bool v_found)), some (.val (PyData.bool v_meant)), none]) rfl ?_
  unfold t7b_law_equal
  refine k_cons ?_
  refine k_ite ?_
  refine b_e ?_
  refine e_or ?_
  refine or_v (y := fun _ => false) ?_
  refine b_e ?_
  refine e_isi1 ?_
  refine o_val rfl ?_
  refine ce_op1 (.v _) rfl ?_
  refine ce_asB ?_
  refine ⟨fun h => (by cases h), ?_⟩
  refine ce_asB ?_
  refine ⟨_, .bad, (if_pos rfl).symm, fun _ => ?_, fun h => absurd h.symm Bool.false_ne_true⟩
  refine k_cons ?_
  refine k_ret ?_
  refine e_and ?_
  refine and_v (y := fun _ => (decide (v_meant = v_found))) ?_
  refine b_e ?_
  refine e_isi1 ?_
  refine o_val rfl ?_
  refine ce_op1 (.v _) rfl ?_
  refine ce_asB ?_
  refine ⟨fun hk3 => ?_, ?_⟩
  · refine and_v (y := fun _ => (decide (v_meant = v_found))) ?_
    refine b_e ?_
    refine e_isi1 ?_
    refine o_val rfl ?_
    refine ce_op1 (.v _) rfl ?_
    refine ce_asB ?_
    refine ⟨fun hk2 => ?_, ?_⟩
    · refine and_1 ?_
      refine e_cmp ?_
      refine o_val rfl ?_
      refine o_val rfl ?_
      refine ce_op2 (.v _) (.v _) (eq_T (eqT_bool) (by decide) v_meant v_found) ?_
      exact ⟨rfl, Weak.refl⟩
    exact ⟨rfl, Weak.refl⟩
  exact fun e f => .rt ⟨rfl, rfl⟩
def t7n_law_equal (v_found : Unit) (v_meant : Unit) : R Bool :=
  .ok true
theorem s7n {H : PG} [C7 H] {n : Nat} (v_found : Unit) (v_meant : Unit) : Sim (run H (n + 1) 7 [eN v_found, eN v_meant]) (t7n_law_equal v_found v_meant) PyData.bool noneD := by
  refine fn_sim (n := n) (fd := f7_law_equal) C7.h_7 rfl rfl (p0 := [some (.val (eN v_found)), some (.val (eN v_meant)), none]) rfl ?_
  unfold t7n_law_equal
  refine k_cons ?_
  refine k_ite ?_
  refine b_e ?_
  refine e_or ?_
  refine or_v (y := fun _ => false) ?_
  refine b_e ?_
  refine e_isi1 ?_
  refine o_val rfl ?_
  refine ce_op1 (.v _) rfl ?_
  refine ce_asB ?_
  refine ⟨fun hk4 => ?_, ?_⟩
  · refine or_1 ?_
    refine e_isi1 ?_
    refine o_val rfl ?_
    refine ce_op1 (.v _) rfl ?_
    exact ⟨rfl, Weak.refl⟩
  refine ce_asB ?_
  refine ⟨.bad, _, (if_neg Bool.false_ne_true).symm, fun h => absurd h Bool.false_ne_true, fun _ => ?_⟩
  refine k_nil ?_
  refine k_cons ?_
  refine k_ite ?_
  refine b_e ?_
  refine e_or ?_
  refine or_v (y := fun _ => false) ?_
  refine b_e ?_
  refine e_cmp ?_
  refine o_val rfl ?_
  refine o_e rfl ?_
  refine e_lit ?_
  refine ce_op2 (.v _) (.v _) (rfl) ?_
  refine ce_asB ?_
  refine ⟨fun h => (by cases h), ?_⟩
  refine ce_asB ?_
  refine ⟨_, .bad, (if_pos rfl).symm, fun _ => ?_, fun h => absurd h.symm Bool.false_ne_true⟩
  refine k_cons ?_
  refine k_ret ?_
  refine e_and ?_
  refine and_v (y := fun _ => true) ?_
  refine b_e ?_
  refine e_cmp ?_
  refine o_val rfl ?_
  refine o_e rfl ?_
  refine e_lit ?_
  refine ce_op2 (.v _) (.v _) (rfl) ?_
  refine ce_asB ?_
  refine ⟨fun hk3 => ?_, ?_⟩
  · refine and_1 ?_
    refine e_cmp ?_
    refine o_val rfl ?_
    refine o_e rfl ?_
    refine e_lit ?_
    refine ce_op2 (.v _) (.v _) (rfl) ?_
    exact ⟨rfl, Weak.refl⟩
  exact fun e f => .rt ⟨rfl, rfl⟩
def t7l_law_equal (q : D → D → R Bool) (v_found : List D) (v_meant : List D) : R Bool :=
  if (decide (((List.length v_found : Nat) : Int) ≠ ((List.length v_meant : Nat) : Int))) = true then (.ok false) else (if (decide (true ≠ true)) = true then (.ok false) else (R.guard (rgOk 0 ((List.length v_meant : Nat) : Int)) <| R.guard (szL (rngI 0 ((List.length v_meant : Nat) : Int))) <| R.bind (mapR (fun (a7 : Int) => R.bind (R.of (ixR v_found a7)) fun (y8 : D) => R.bind (R.of (ixR v_meant a7)) fun (y10 : D) => R.bind (q y8 y10) fun (b : Bool) => .ok b) (rngI 0 ((List.length v_meant : Nat) : Int))) fun (y13 : (List Bool)) => .ok (List.all y13 id)))
theorem s7l {H : PG} [C7 H] {n d : Nat} (q : D → D → R Bool) (hq : ∀ x y, Sim (run H (n + d) 7 [x, y]) (q x y) PyData.bool noneD) (v_found : List D) (v_meant : List D) : Sim (run H (n + d + 1) 7 [(eL eD) v_found, (eL eD) v_meant]) (t7l_law_equal q v_found v_meant) PyData.bool noneD := by
  refine fn_sim (n := n + d) (fd := f7_law_equal) C7.h_7 rfl rfl (p0 := [some (.val ((eL eD) v_found)), some (.val ((eL eD) v_meant)), none]) rfl ?_
  unfold t7l_law_equal
  refine k_cons ?_
  refine k_ite ?_
  refine b_e ?_
  refine e_or ?_
  refine or_v (y := fun _ => false) ?_
  refine b_e ?_
  refine e_isi1 ?_
  refine o_val rfl ?_
  refine ce_op1 (.v _) rfl ?_
  refine ce_asB ?_
  refine ⟨fun hk16 => ?_, ?_⟩
  · refine or_1 ?_
    refine e_isi1 ?_
    refine o_val rfl ?_
    refine ce_op1 (.v _) rfl ?_
    exact ⟨rfl, Weak.refl⟩
  refine ce_asB ?_
  refine ⟨.bad, _, (if_neg Bool.false_ne_true).symm, fun h => absurd h Bool.false_ne_true, fun _ => ?_⟩
  refine k_nil ?_
  refine k_cons ?_
  refine k_ite ?_
  refine b_e ?_
  refine e_or ?_
  refine or_v (y := fun _ => false) ?_
  refine b_e ?_
  refine e_cmp ?_
  refine o_val rfl ?_
  refine o_e rfl ?_
  refine e_lit ?_
  refine ce_op2 (.v _) (.v _) (rfl) ?_
  refine ce_asB ?_
  refine ⟨fun hk15 => ?_, ?_⟩
  · refine or_1 ?_
    refine e_cmp ?_
    refine o_val rfl ?_
    refine o_e rfl ?_
    refine e_lit ?_
    refine ce_op2 (.v _) (.v _) (rfl) ?_
    exact ⟨rfl, Weak.refl⟩
  refine ce_asB ?_
  refine ⟨.bad, _, (if_neg Bool.false_ne_true).symm, fun h => absurd h Bool.false_ne_true, fun _ => ?_⟩
  refine k_nil ?_
  refine k_cons ?_
  refine k_ite ?_
  refine b_e ?_
  refine e_isi2 ?_
  refine o_val rfl ?_
  refine ce_op1 (.v _) rfl ?_
  refine ce_asB ?_
  refine ⟨_, .bad, (if_pos rfl).symm, fun _ => ?_, fun h => absurd h.symm Bool.false_ne_true⟩
  refine k_cons ?_
  refine k_ite ?_
  refine b_e ?_
  refine e_or ?_
  refine or_v (y := fun _ => (decide (((List.length v_found : Nat) : Int) ≠ ((List.length v_meant : Nat) : Int)))) ?_
  refine b_e ?_
  refine e_not ?_
  refine b_e ?_
  refine e_isi2 ?_
  refine o_val rfl ?_
  refine ce_op1 (.v _) rfl ?_
  refine ce_asB ?_
  refine ce_asB ?_
  refine ⟨fun hk14 => ?_, ?_⟩
  · refine or_1 ?_
    refine e_cmp ?_
    refine o_e rfl ?_
    refine e_bi ?_
    refine a_cons ?_
    refine o_val rfl ?_
    refine a_nil ?_
    refine ce_opN (.cons (.v _) .nil) (len_L (e := eD) _) ?_
    refine o_e rfl ?_
    refine e_bi ?_
    refine a_cons ?_
    refine o_val rfl ?_
    refine a_nil ?_
    refine ce_opN (.cons (.v _) .nil) (len_L (e := eD) _) ?_
    refine ce_op2 (.v _) (.v _) (ne_T (eqT_int) (by decide) ((List.length v_found : Nat) : Int) ((List.length v_meant : Nat) : Int)) ?_
    exact ⟨rfl, Weak.refl⟩
  refine ce_asB ?_
  refine ⟨_, _, rfl, fun hk4 => ?_, fun hk4 => ?_⟩
  · refine k_cons ?_
    refine k_ret ?_
    refine e_lit ?_
    exact fun e f => .rt ⟨rfl, rfl⟩
  · refine k_nil ?_
    refine k_cons ?_
    refine k_ite ?_
    refine b_e ?_
    refine e_cmp ?_
    refine o_e rfl ?_
    refine e_isi1 ?_
    refine o_val rfl ?_
    refine ce_op1 (.v _) rfl ?_
    refine o_e rfl ?_
    refine e_isi1 ?_
    refine o_val rfl ?_
    refine ce_op1 (.v _) rfl ?_
    refine ce_op2 (.v _) (.v _) (ne_T (eqT_bool) (by decide) true true) ?_
    refine ce_asB ?_
    refine ⟨_, _, rfl, fun hk5 => ?_, fun hk5 => ?_⟩
    · refine k_cons ?_
      refine k_ret ?_
      refine e_lit ?_
      exact fun e f => .rt ⟨rfl, rfl⟩
    · refine k_nil ?_
      refine k_cons ?_
      refine k_ret ?_
      refine e_bi ?_
      refine a_cons ?_
      refine o_e rfl ?_
      refine e_lc ?_
      refine s_rng ?_
      refine a_cons ?_
      refine o_e rfl ?_
      refine e_bi ?_
      refine a_cons ?_
      refine o_val rfl ?_
      refine a_nil ?_
      refine ce_opN (.cons (.v _) .nil) (len_L (e := eD) _) ?_
      refine a_nil ?_
      refine ce_guard fun hg6 => ?_
      refine ce_rng1 hg6 ?_
      refine ⟨rfl, ?_⟩
      refine ce_map (g := PyData.int) (v := PyData.bool) rfl rfl rfl (fun a7 => ⟨_, rfl, ?_⟩) (fun y13 => ?_)
      · refine e_call (I_7 (H := H)) ?_
        refine a_cons ?_
        refine o_e rfl ?_
        refine e_ix ?_
        refine o_val rfl ?_
        refine o_val rfl ?_
        refine ce_of fun y8 hy9 => ?_
        refine ce_op2 (.v _) (.v _) (ix_L (e := eD) hy9) ?_
        refine a_cons ?_
        refine o_e rfl ?_
        refine e_ix ?_
        refine o_val rfl ?_
        refine o_val rfl ?_
        refine ce_of fun y10 hy11 => ?_
        refine ce_op2 (.v _) (.v _) (ix_L (e := eD) hy11) ?_
        refine a_nil ?_
        refine ce_call (en := PyData.bool) (.cons (.cons .nil)) (hq y8 y10) ?_
        intro b
        exact ⟨b, rfl, rfl, (.same (.same (.drop trivial .nil)))⟩
      refine a_nil ?_
      refine ce_opN (.cons (.v _) .nil) (all_L _) ?_
      exact fun e f => .rt ⟨rfl, rfl⟩
def t7u_law_equal (q : D → D → R Bool) (v_found : List D) (v_meant : List D) : R Bool :=
  if (decide (((List.length v_found : Nat) : Int) ≠ ((List.length v_meant : Nat) : Int))) = true then (.ok false) else (if (decide (false ≠ false)) = true then (.ok false) else (R.guard (rgOk 0 ((List.length v_meant : Nat) : Int)) <| R.guard (szL (rngI 0 ((List.length v_meant : Nat) : Int))) <| R.bind (mapR (fun (a7 : Int) => R.bind (R.of (ixR v_found a7)) fun (y8 : D) => R.bind (R.of (ixR v_meant a7)) fun (y10 : D) => R.bind (q y8 y10) fun (b : Bool) => .ok b) (rngI 0 ((List.length v_meant : Nat) : Int))) fun (y13 : (List Bool)) => .ok (List.all y13 id)))
theorem s7u {H : PG} [C7 H] {n d : Nat} (q : D → D → R Bool) (hq : ∀ x y, Sim (run H (n + d) 7 [x, y]) (q x y) PyData.bool noneD) (v_found : List D) (v_meant : List D) : Sim (run H (n + d + 1) 7 [(eU eD) v_found, (eU eD) v_meant]) (t7u_law_equal q v_found v_meant) PyData.bool noneD := by
  refine fn_sim (n := n + d) (fd := f7_law_equal) C7.h_7 rfl rfl (p0 := [some (.val ((eU eD) v_found)), some (.val ((eU eD) v_meant)), none]) rfl ?_
  unfold t7u_law_equal
  refine k_cons ?_
  refine k_ite ?_
  refine b_e ?_
  refine e_or ?_
  refine or_v (y := fun _ => false) ?_
  refine b_e ?_
  refine e_isi1 ?_
  refine o_val rfl ?_
  refine ce_op1 (.v _) rfl ?_
  refine ce_asB ?_
  refine ⟨fun hk16 => ?_, ?_⟩
  · refine or_1 ?_
    refine e_isi1 ?_
    refine o_val rfl ?_
    refine ce_op1 (.v _) rfl ?_
    exact ⟨rfl, Weak.refl⟩
  refine ce_asB ?_
  refine ⟨.bad, _, (if_neg Bool.false_ne_true).symm, fun h => absurd h Bool.false_ne_true, fun _ => ?_⟩
  refine k_nil ?_
  refine k_cons ?_
  refine k_ite ?_
  refine b_e ?_
  refine e_or ?_
  refine or_v (y := fun _ => false) ?_
  refine b_e ?_
  refine e_cmp ?_
  refine o_val rfl ?_
  refine o_e rfl ?_
  refine e_lit ?_
  refine ce_op2 (.v _) (.v _) (rfl) ?_
  refine ce_asB ?_
  refine ⟨fun hk15 => ?_, ?_⟩
  · refine or_1 ?_
    refine e_cmp ?_
    refine o_val rfl ?_
    refine o_e rfl ?_
    refine e_lit ?_
    refine ce_op2 (.v _) (.v _) (rfl) ?_
    exact ⟨rfl, Weak.refl⟩
  refine ce_asB ?_
  refine ⟨.bad, _, (if_neg Bool.false_ne_true).symm, fun h => absurd h Bool.false_ne_true, fun _ => ?_⟩
  refine k_nil ?_
  refine k_cons ?_
  refine k_ite ?_
  refine b_e ?_
  refine e_isi2 ?_
  refine o_val rfl ?_
  refine ce_op1 (.v _) rfl ?_
  refine ce_asB ?_
  refine ⟨_, .bad, (if_pos rfl).symm, fun _ => ?_, fun h => absurd h.symm Bool.false_ne_true⟩
  refine k_cons ?_
  refine k_ite ?_
  refine b_e ?_
  refine e_or ?_
  refine or_v (y := fun _ => (decide (((List.length v_found : Nat) : Int) ≠ ((List.length v_meant : Nat) : Int)))) ?_
  refine b_e ?_
  refine e_not ?_
  refine b_e ?_
  refine e_isi2 ?_
  refine o_val rfl ?_
  refine ce_op1 (.v _) rfl ?_
  refine ce_asB ?_
  refine ce_asB ?_
  refine ⟨fun hk14 => ?_, ?_⟩
  · refine or_1 ?_
    refine e_cmp ?_
    refine o_e rfl ?_
    refine e_bi ?_
    refine a_cons ?_
    refine o_val rfl ?_
    refine a_nil ?_
    refine ce_opN (.cons (.v _) .nil) (len_U (e := eD) _) ?_
    refine o_e rfl ?_
    refine e_bi ?_
    refine a_cons ?_
    refine o_val rfl ?_
    refine a_nil ?_
    refine ce_opN (.cons (.v _) .nil) (len_U (e := eD) _) ?_
    refine ce_op2 (.v _) (.v _) (ne_T (eqT_int) (by decide) ((List.length v_found : Nat) : Int) ((List.length v_meant : Nat) : Int)) ?_
    exact ⟨rfl, Weak.refl⟩
  refine ce_asB ?_
  refine ⟨_, _, rfl, fun hk4 => ?_, fun hk4 => ?_⟩
  · refine k_cons ?_
    refine k_ret ?_
    refine e_lit ?_
    exact fun e f => .rt ⟨rfl, rfl⟩
  · refine k_nil ?_
    refine k_cons ?_
    refine k_ite ?_
    refine b_e ?_
    refine e_cmp ?_
    refine o_e rfl ?_
    refine e_isi1 ?_
    refine o_val rfl ?_
    refine ce_op1 (.v _) rfl ?_
    refine o_e rfl ?_
    refine e_isi1 ?_
    refine o_val rfl ?_
    refine ce_op1 (.v _) rfl ?_
    refine ce_op2 (.v _) (.v _) (ne_T (eqT_bool) (by decide) false false) ?_
    refine ce_asB ?_
    refine ⟨_, _, rfl, fun hk5 => ?_, fun hk5 => ?_⟩
    · refine k_cons ?_
      refine k_ret ?_
      refine e_lit ?_
      exact fun e f => .rt ⟨rfl, rfl⟩
    · refine k_nil ?_
      refine k_cons ?_
      refine k_ret ?_
      refine e_bi ?_
      refine a_cons ?_
      refine o_e rfl ?_
      refine e_lc ?_
      refine s_rng ?_
      refine a_cons ?_
      refine o_e rfl ?_
      refine e_bi ?_
      refine a_cons ?_
      refine o_val rfl ?_
      refine a_nil ?_
      refine ce_opN (.cons (.v _) .nil) (len_U (e := eD) _) ?_
      refine a_nil ?_
      refine ce_guard fun hg6 => ?_
      refine ce_rng1 hg6 ?_
      refine ⟨rfl, ?_⟩
      refine ce_map (g := PyData.int) (v := PyData.bool) rfl rfl rfl (fun a7 => ⟨_, rfl, ?_⟩) (fun y13 => ?_)
      · refine e_call (I_7 (H := H)) ?_
        refine a_cons ?_
        refine o_e rfl ?_
        refine e_ix ?_
        refine o_val rfl ?_
        refine o_val rfl ?_
        refine ce_of fun y8 hy9 => ?_
        refine ce_op2 (.v _) (.v _) (ix_U (e := eD) hy9) ?_
        refine a_cons ?_
        refine o_e rfl ?_
        refine e_ix ?_
        refine o_val rfl ?_
        refine o_val rfl ?_
        refine ce_of fun y10 hy11 => ?_
        refine ce_op2 (.v _) (.v _) (ix_U (e := eD) hy11) ?_
        refine a_nil ?_
        refine ce_call (en := PyData.bool) (.cons (.cons .nil)) (hq y8 y10) ?_
        intro b
        exact ⟨b, rfl, rfl, (.same (.same (.drop trivial .nil)))⟩
      refine a_nil ?_
      refine ce_opN (.cons (.v _) .nil) (all_L _) ?_
      exact fun e f => .rt ⟨rfl, rfl⟩

/-- what the equality of the laws gives on data of a kind -/
structure LEq (H : PG) (d : Nat) {α : Type} [DecidableEq α] (ok : α → Bool) (e : α → D) : Prop where
  eq : ∀ n x y, ok y = true → run H (n + d) 7 [e x, e y] = .ok (.bool (decide (x = y))) .none
section
variable {α β γ δ : Type} [DecidableEq α] [DecidableEq β] [DecidableEq γ] [DecidableEq δ] {H : PG} [C7 H]
theorem LEq.up {d d' : Nat} {ok : α → Bool} {e : α → D} (h : LEq H d ok e) (l : d ≤ d') : LEq H d' ok e := ⟨fun n x y k => by
  have := h.eq (n + (d' - d)) x y k
  rw [show n + (d' - d) + d = n + d' by omega] at this
  exact this⟩
theorem s7_eq {n d : Nat} {ok : α → Bool} {e : α → D} (h : LEq H d ok e) (x y : α) (k : ok y = true) (l : d ≤ 8 := by decide) : run H (n + 8) 7 [e x, e y] = .ok (.bool (decide (x = y))) .none := (h.up l).eq n x y k
theorem leq_int : LEq H 1 (fun _ => true) PyData.int := ⟨fun n x y _ => s7i x y⟩
theorem leq_bool : LEq H 1 (fun _ => true) PyData.bool := ⟨fun n x y _ => by
  have : run H (n + 1) 7 [PyData.bool x, PyData.bool y] = .ok (.bool (decide (y = x))) .none := s7b x y
  rw [this]
  congr 2
  exact decide_eq_decide.mpr eq_comm⟩
theorem leq_none : LEq H 1 (fun _ => true) eN := ⟨fun n x y _ => s7n x y⟩
def qrun (H : PG) (n : Nat) (x y : D) : R Bool := match run H n 7 [x, y] with | .ok (.bool b) .none => .ok b | _ => .bad
theorem qrun_sim {n : Nat} (x y : D) : Sim (run H n 7 [x, y]) (qrun H n x y) PyData.bool noneD := by
  unfold qrun
  split
  · rename_i h; rw [h]; rfl
  · trivial
theorem qrun_of {n : Nat} {x y : D} {b : Bool} (h : run H n 7 [x, y] = .ok (.bool b) .none) : qrun H n x y = .ok b := by
  unfold qrun
  rw [h]
theorem t7_all {q : D → D → R Bool} {xs ys : List D} {b : Nat → Bool} (hl : xs.length = ys.length) (hz : szL ys = true) (hq : ∀ (i : Nat) (x y : D), xs[i]? = some x → ys[i]? = some y → q x y = .ok (b i)) :
    (R.guard (rgOk 0 ((List.length ys : Nat) : Int)) <| R.guard (szL (rngI 0 ((List.length ys : Nat) : Int))) <| R.bind (mapR (fun (a7 : Int) => R.bind (R.of (ixR xs a7)) fun (y8 : D) => R.bind (R.of (ixR ys a7)) fun (y10 : D) => R.bind (q y8 y10) fun (b : Bool) => .ok b) (rngI 0 ((List.length ys : Nat) : Int))) fun (y13 : (List Bool)) => .ok (List.all y13 id)) = .ok ((List.range ys.length).all b) := by
  have z : ys.length ≤ sizeLine := of_decide_eq_true hz
  have z2 : sizeLine < 2 ^ 62 := by decide
  have hr : rngI 0 ((ys.length : Nat) : Int) = (List.range ys.length).map fun (i : Nat) => (i : Int) := by
    unfold rngI
    simp
  have g1 : rgOk 0 ((ys.length : Nat) : Int) = true := decide_eq_true ⟨by omega, by omega, by omega, by omega⟩
  have g2 : szL (rngI 0 ((ys.length : Nat) : Int)) = true := by rw [hr]; exact decide_eq_true (by simpa using z)
  rw [R.guard_of g1, R.guard_of g2, hr]
  rw [mapR_of (g := fun i => b i.toNat) fun a ha => ?_]
  · simp [List.all_map, Function.comp_def]
  · obtain ⟨i, hi, rfl⟩ := List.mem_map.mp ha
    have hi : i < ys.length := by simpa using hi
    have h1 : ixR xs (i : Int) = some xs[i] := by
      unfold ixR
      rw [if_neg (by omega), Int.toNat_natCast, List.getElem?_eq_getElem (by omega)]
    have h2 : ixR ys (i : Int) = some ys[i] := by
      unfold ixR
      rw [if_neg (by omega), Int.toNat_natCast, List.getElem?_eq_getElem (by omega)]
    have := hq i xs[i] ys[i] (List.getElem?_eq_getElem (by omega)) (List.getElem?_eq_getElem hi)
    simp [h1, h2, this]
theorem map_eD (xs : List D) : xs.map eD = xs := List.map_id' xs
theorem s7_list {n d : Nat} {xs ys : List D} {b : Nat → Bool} (hz : szL ys = true) (hq : xs.length = ys.length → ∀ (i : Nat) (x y : D), xs[i]? = some x → ys[i]? = some y → run H (n + d) 7 [x, y] = .ok (.bool (b i)) .none) : run H (n + d + 1) 7 [.list xs, .list ys] = .ok (.bool (decide (xs.length = ys.length) && (List.range ys.length).all b)) .none := by
  have h := s7l (n := n) (d := d) (qrun H (n + d)) (fun x y => qrun_sim x y) xs ys
  unfold eL at h
  rw [map_eD, map_eD] at h
  have e : t7l_law_equal (qrun H (n + d)) xs ys = .ok (decide (xs.length = ys.length) && (List.range ys.length).all b) := by
    unfold t7l_law_equal
    by_cases hl : xs.length = ys.length
    · rw [if_neg (by simp [hl]), if_neg (by simp), t7_all hl hz fun i x y h1 h2 => qrun_of (hq hl i x y h1 h2)]
      simp [hl]
    · rw [if_pos (by simp; omega)]
      simp [hl]
  rw [e] at h
  exact h
theorem s7_tuple {n d : Nat} {xs ys : List D} {b : Nat → Bool} (hz : szL ys = true) (hq : xs.length = ys.length → ∀ (i : Nat) (x y : D), xs[i]? = some x → ys[i]? = some y → run H (n + d) 7 [x, y] = .ok (.bool (b i)) .none) : run H (n + d + 1) 7 [.tuple xs, .tuple ys] = .ok (.bool (decide (xs.length = ys.length) && (List.range ys.length).all b)) .none := by
  have h := s7u (n := n) (d := d) (qrun H (n + d)) (fun x y => qrun_sim x y) xs ys
  unfold eU at h
  rw [map_eD, map_eD] at h
  have e : t7u_law_equal (qrun H (n + d)) xs ys = .ok (decide (xs.length = ys.length) && (List.range ys.length).all b) := by
    unfold t7u_law_equal
    by_cases hl : xs.length = ys.length
    · rw [if_neg (by simp [hl]), if_neg (by simp), t7_all hl hz fun i x y h1 h2 => qrun_of (hq hl i x y h1 h2)]
      simp [hl]
    · rw [if_pos (by simp; omega)]
      simp [hl]
  rw [e] at h
  exact h
def okL (ok : α → Bool) (xs : List α) : Bool := szL xs && xs.all ok
theorem all_eq (xs ys : List α) : (decide (xs.length = ys.length) && (List.range ys.length).all fun i => decide (xs[i]? = ys[i]?)) = decide (xs = ys) := by
  rw [Bool.eq_iff_iff, Bool.and_eq_true, decide_eq_true_eq, decide_eq_true_eq, List.all_eq_true]
  constructor
  · rintro ⟨h1, h2⟩
    refine List.ext_getElem? fun i => ?_
    by_cases hi : i < ys.length
    · exact of_decide_eq_true (h2 i (List.mem_range.mpr hi))
    · rw [List.getElem?_eq_none (by omega), List.getElem?_eq_none (by omega)]
  · rintro rfl
    exact ⟨rfl, fun i _ => decide_eq_true rfl⟩
theorem map_at {e : α → D} {xs : List α} {i : Nat} {x : D} (h : (xs.map e)[i]? = some x) : ∃ a, xs[i]? = some a ∧ x = e a := by
  rw [List.getElem?_map] at h
  obtain ⟨a, h1, h2⟩ := Option.map_eq_some_iff.mp h
  exact ⟨a, h1, h2.symm⟩
theorem pt {d n : Nat} {ok : α → Bool} {e : α → D} (h : LEq H d ok e) {xs ys : List α} (hk : ys.all ok = true) (i : Nat) (x y : D) (h1 : (xs.map e)[i]? = some x) (h2 : (ys.map e)[i]? = some y) : run H (n + d) 7 [x, y] = .ok (.bool (decide (xs[i]? = ys[i]?))) .none := by
  obtain ⟨a, k1, rfl⟩ := map_at h1
  obtain ⟨b, k2, rfl⟩ := map_at h2
  rw [h.eq n a b (List.all_eq_true.mp hk b (List.mem_of_getElem? k2)), k1, k2]
  simp
theorem leq_Lk {d : Nat} {ok : α → Bool} {e : α → D} (h : LEq H d ok e) : LEq H (d + 1) (okL ok) (eL e) := ⟨fun n xs ys k => by
  unfold okL at k
  rw [Bool.and_eq_true] at k
  have := s7_list (H := H) (n := n) (d := d) (xs := xs.map e) (ys := ys.map e) (b := fun i => decide (xs[i]? = ys[i]?)) (by unfold szL at k ⊢; rw [List.length_map]; exact k.1) fun _ => pt h k.2
  rw [List.length_map, List.length_map, all_eq] at this
  exact this⟩
theorem leq_Uk {d : Nat} {ok : α → Bool} {e : α → D} (h : LEq H d ok e) : LEq H (d + 1) (okL ok) (eU e) := ⟨fun n xs ys k => by
  unfold okL at k
  rw [Bool.and_eq_true] at k
  have := s7_tuple (H := H) (n := n) (d := d) (xs := xs.map e) (ys := ys.map e) (b := fun i => decide (xs[i]? = ys[i]?)) (by unfold szL at k ⊢; rw [List.length_map]; exact k.1) fun _ => pt h k.2
  rw [List.length_map, List.length_map, all_eq] at this
  exact this⟩
theorem LEq.imp {d : Nat} {ok ok' : α → Bool} {e : α → D} (h : LEq H d ok e) (k : ∀ x, ok' x = true → ok x = true) : LEq H d ok' e := ⟨fun n x y z => h.eq n x y (k y z)⟩
theorem leq_L {d : Nat} {e : α → D} (h : LEq H d (fun _ => true) e) : LEq H (d + 1) szL (eL e) := (leq_Lk h).imp fun x k => by unfold okL; rw [k]; simp
theorem leq_U {d : Nat} {e : α → D} (h : LEq H d (fun _ => true) e) : LEq H (d + 1) szL (eU e) := (leq_Uk h).imp fun x k => by unfold okL; rw [k]; simp
def okOptpt (ok : α → Bool) : Option α → Bool | none => true | some a => ok a
theorem s7_n1 {n : Nat} {d : D} (h : nnD d = true) : run H (n + 1) 7 [d, .none] = .ok (.bool false) .none := by
  rw [run_at' C7.h_7]
  cases d <;> first | (cases h; done) | simp [runB, denS, den, Den.of, Den.b, initE, initN, initV, BOp.f, COp.f, Bi.f, ixD, L2.atI, cmpI, intD, modD, divD, mulI, addD, subD, powD, negD, setM, changeM, setD, L2.ixN, putMine, liftE, Tgt.bind, bindAll, setV, setO, endB, outE, callM, callS, argD, argN, ioSlot, lenD, tupleD, listD, absD, isiD, isi2, isiAny, Tp.par2, putVO, augM, augF, appM, appD, wipeE, rngA, arity, asSrc, isNil, M.stuck, isND, notND, slcB, List.lookup, f7_law_equal, isi1, eqD]
theorem s7_n2 {n : Nat} {d : D} (h : nnD d = true) : run H (n + 1) 7 [.none, d] = .ok (.bool false) .none := by
  rw [run_at' C7.h_7]
  cases d <;> first | (cases h; done) | simp [runB, denS, den, Den.of, Den.b, initE, initN, initV, BOp.f, COp.f, Bi.f, ixD, L2.atI, cmpI, intD, modD, divD, mulI, addD, subD, powD, negD, setM, changeM, setD, L2.ixN, putMine, liftE, Tgt.bind, bindAll, setV, setO, endB, outE, callM, callS, argD, argN, ioSlot, lenD, tupleD, listD, absD, isiD, isi2, isiAny, Tp.par2, putVO, augM, augF, appM, appD, wipeE, rngA, arity, asSrc, isNil, M.stuck, isND, notND, slcB, List.lookup, f7_law_equal, isi1, eqD]
theorem leq_Ok {d : Nat} {ok : α → Bool} {e : α → D} (h : LEq H (d + 1) ok e) (hn : ∀ x, nnD (e x) = true) : LEq H (d + 1) (okOptpt ok) (eO e) := ⟨fun n x y k => by
  cases y with
  | none =>
    cases x with
    | none => exact s7n () ()
    | some a => exact s7_n1 (hn a)
  | some b =>
    cases x with
    | none => exact s7_n2 (hn b)
    | some a =>
      have := h.eq n a b k
      simp only [Option.some.injEq]
      exact this⟩
theorem leq_O {d : Nat} {e : α → D} (h : LEq H (d + 1) (fun _ => true) e) (hn : ∀ x, nnD (e x) = true) : LEq H (d + 1) (fun _ => true) (eO e) := (leq_Ok h hn).imp fun x _ => by cases x <;> rfl
def okT2 (a : α → Bool) (b : β → Bool) (p : α × β) : Bool := a p.1 && b p.2
def okT3 (a : α → Bool) (b : β → Bool) (c : γ → Bool) (p : α × β × γ) : Bool := a p.1 && b p.2.1 && c p.2.2
theorem leq_T2k {d1 d2 : Nat} {o1 : α → Bool} {o2 : β → Bool} {e1 : α → D} {e2 : β → D} (h1 : LEq H d1 o1 e1) (h2 : LEq H d2 o2 e2) : LEq H (max d1 d2 + 1) (okT2 o1 o2) (eT2 e1 e2) := ⟨fun n x y k => by
  unfold okT2 at k
  rw [Bool.and_eq_true] at k
  have k1 := (h1.up (Nat.le_max_left d1 d2)).eq n x.1 y.1 k.1
  have k2 := (h2.up (Nat.le_max_right d1 d2)).eq n x.2 y.2 k.2
  have := s7_tuple (H := H) (n := n) (d := max d1 d2) (xs := [e1 x.1, e2 x.2]) (ys := [e1 y.1, e2 y.2]) (b := fun i => match i with | 0 => decide (x.1 = y.1) | _ => decide (x.2 = y.2)) rfl fun _ i u v q1 q2 => by
    match i, q1, q2 with
    | 0, q1, q2 => cases q1; cases q2; exact k1
    | 1, q1, q2 => cases q1; cases q2; exact k2
  rw [show decide (x = y) = (decide (x.1 = y.1) && decide (x.2 = y.2)) by rw [Bool.eq_iff_iff]; simp [Prod.ext_iff]]
  refine this.trans ?_
  simp [List.range_succ]⟩
theorem leq_T2 {d1 d2 : Nat} {e1 : α → D} {e2 : β → D} (h1 : LEq H d1 (fun _ => true) e1) (h2 : LEq H d2 (fun _ => true) e2) : LEq H (max d1 d2 + 1) (fun _ => true) (eT2 e1 e2) := (leq_T2k h1 h2).imp fun _ _ => rfl
theorem leq_T3k {d1 d2 d3 : Nat} {o1 : α → Bool} {o2 : β → Bool} {o3 : γ → Bool} {e1 : α → D} {e2 : β → D} {e3 : γ → D} (h1 : LEq H d1 o1 e1) (h2 : LEq H d2 o2 e2) (h3 : LEq H d3 o3 e3) : LEq H (max d1 (max d2 d3) + 1) (okT3 o1 o2 o3) (eT3 e1 e2 e3) := ⟨fun n x y k => by
  unfold okT3 at k
  rw [Bool.and_eq_true, Bool.and_eq_true] at k
  have k1 := (h1.up (show d1 ≤ max d1 (max d2 d3) by omega)).eq n x.1 y.1 k.1.1
  have k2 := (h2.up (show d2 ≤ max d1 (max d2 d3) by omega)).eq n x.2.1 y.2.1 k.1.2
  have k3 := (h3.up (show d3 ≤ max d1 (max d2 d3) by omega)).eq n x.2.2 y.2.2 k.2
  have := s7_tuple (H := H) (n := n) (d := max d1 (max d2 d3)) (xs := [e1 x.1, e2 x.2.1, e3 x.2.2]) (ys := [e1 y.1, e2 y.2.1, e3 y.2.2]) (b := fun i => match i with | 0 => decide (x.1 = y.1) | 1 => decide (x.2.1 = y.2.1) | _ => decide (x.2.2 = y.2.2)) rfl fun _ i u v q1 q2 => by
    match i, q1, q2 with
    | 0, q1, q2 => cases q1; cases q2; exact k1
    | 1, q1, q2 => cases q1; cases q2; exact k2
    | 2, q1, q2 => cases q1; cases q2; exact k3
  rw [show decide (x = y) = (decide (x.1 = y.1) && decide (x.2.1 = y.2.1) && decide (x.2.2 = y.2.2)) by rw [Bool.eq_iff_iff]; simp [Prod.ext_iff, and_assoc]]
  refine this.trans ?_
  simp [List.range_succ, Bool.and_assoc]⟩
theorem leq_T3 {d1 d2 d3 : Nat} {e1 : α → D} {e2 : β → D} {e3 : γ → D} (h1 : LEq H d1 (fun _ => true) e1) (h2 : LEq H d2 (fun _ => true) e2) (h3 : LEq H d3 (fun _ => true) e3) : LEq H (max d1 (max d2 d3) + 1) (fun _ => true) (eT3 e1 e2 e3) := (leq_T3k h1 h2 h3).imp fun _ _ => rfl
end

theorem s2 {H : PG} [C2 H] {n : Nat} (v_value : Int) (v_digits : Int) : Sim (run H (n + 2) 2 [PyData.int v_value, PyData.int v_digits]) (t2_is_short v_value v_digits) PyData.bool noneD := by
  refine fn_sim (n := n + 1) (fd := f2_is_short) C2.h_2 rfl rfl (p0 := [some (.val (PyData.int v_value)), some (.val (PyData.int v_digits))]) rfl ?_
  unfold t2_is_short
  refine k_cons ?_
  refine k_ret ?_
  refine e_and ?_
  refine and_v (y := fun _ => (decide ((if v_value < 0 then -v_value else v_value) < v_digits))) ?_
  refine b_e ?_
  refine e_call (I_1 (H := H)) ?_
  refine a_cons ?_
  refine o_val rfl ?_
  refine a_nil ?_
  refine ce_call (.cons .nil) (s1 (n := n + 0) v_value) ?_
  intro y1
  refine ce_asB ?_
  refine ⟨fun hk2 => ?_, ?_⟩
  · refine and_1 ?_
    refine e_cmp ?_
    refine o_e rfl ?_
    refine e_bi ?_
    refine a_cons ?_
    refine o_val rfl ?_
    refine a_nil ?_
    refine ce_opN (.cons (.v _) .nil) (abs_i _) ?_
    refine o_val rfl ?_
    refine ce_op2 (.v _) (.v _) (lt_i _ _) ?_
    exact ⟨rfl, Weak.refl⟩
  exact fun e f => .rt ⟨rfl, rfl⟩
theorem s15 {H : PG} [C15 H] {n : Nat} (v_value : Int) : Sim (run H (n + 2) 15 [PyData.int v_value]) (t15_is_natural v_value) PyData.bool noneD := by
  refine fn_sim (n := n + 1) (fd := f15_is_natural) C15.h_15 rfl rfl (p0 := [some (.val (PyData.int v_value))]) rfl ?_
  unfold t15_is_natural
  refine k_cons ?_
  refine k_ret ?_
  refine e_and ?_
  refine and_v (y := fun _ => ((decide (0 ≤ v_value)) && (decide (v_value ≤ 10000000000000000000000000000000000000000)))) ?_
  refine b_e ?_
  refine e_call (I_1 (H := H)) ?_
  refine a_cons ?_
  refine o_val rfl ?_
  refine a_nil ?_
  refine ce_call (.cons .nil) (s1 (n := n + 0) v_value) ?_
  intro y1
  refine ce_asB ?_
  refine ⟨fun hk3 => ?_, ?_⟩
  · refine and_1 ?_
    refine e_chain ?_
    refine o_e rfl ?_
    refine e_lit ?_
    refine o_val rfl ?_
    refine ce_op2 (.v _) (.v _) (le_i _ _) ?_
    refine ce_asB ?_
    refine ⟨fun _ => (decide (v_value ≤ 10000000000000000000000000000000000000000)), fun hk2 => ?_, ?_⟩
    · refine o_e rfl ?_
      refine e_glob K_GREATEST.h_GREATEST ?_
      exact ce_op2 (.v _) (.v _) (le_i _ _) ⟨rfl, Weak.refl⟩
    exact ⟨rfl, Weak.refl⟩
  exact fun e f => .rt ⟨rfl, rfl⟩
theorem s19 {H : PG} [C19 H] {n : Nat} (v_curve : (List (Int × Int × Int))) (v_x : Int) : Sim (run H (n + 2) 19 [(eU (eT3 PyData.int PyData.int PyData.int)) v_curve, PyData.int v_x]) (t19_worth v_curve v_x) PyData.int noneD := by
  refine fn_sim (n := n + 1) (fd := f19_worth) C19.h_19 rfl rfl (p0 := [some (.val ((eU (eT3 PyData.int PyData.int PyData.int)) v_curve)), some (.val (PyData.int v_x)), none, none, none]) rfl ?_
  unfold t19_worth
  refine k_cons ?_
  refine k_asg ?_
  refine e_call (I_18 (H := H)) ?_
  refine a_cons ?_
  refine o_val rfl ?_
  refine a_cons ?_
  refine o_val rfl ?_
  refine a_nil ?_
  refine ce_call (.cons (.cons .nil)) (s18 (n := n + 0) v_curve v_x) ?_
  intro y1
  refine ⟨[some (.val ((eU (eT3 PyData.int PyData.int PyData.int)) v_curve)), some (.val (PyData.int v_x)), some (.val (PyData.int y1.1)), some (.val (PyData.int y1.2.1)), some (.val (PyData.int y1.2.2))], rfl, ?_⟩
  refine k_cons ?_
  refine k_ret ?_
  refine e_bin ?_
  refine o_val rfl ?_
  refine o_e rfl ?_
  refine e_bin ?_
  refine o_val rfl ?_
  refine o_e rfl ?_
  refine e_bin ?_
  refine o_val rfl ?_
  refine o_val rfl ?_
  refine ce_op2 (.v _) (.v _) (sub_i v_x y1.1) ?_
  refine ce_guard fun hg2 => ?_
  refine ce_op2 (.v _) (.v _) (mul_i y1.2.2 (v_x - y1.1) hg2) ?_
  refine ce_op2 (.v _) (.v _) (add_i y1.2.1 (y1.2.2 * (v_x - y1.1))) ?_
  exact fun e f => .rt ⟨rfl, rfl⟩
theorem s94 {H : PG} [C94 H] {n : Nat} (v_parts : Int) : Sim (run H (n + 2) 94 [PyData.int v_parts]) (t94_check_parts v_parts) eN noneD := by
  refine fn_sim (n := n + 1) (fd := f94_check_parts) C94.h_94 rfl rfl (p0 := [some (.val (PyData.int v_parts))]) rfl ?_
  unfold t94_check_parts
  refine k_cons ?_
  refine k_ite ?_
  refine b_e ?_
  refine e_or ?_
  refine or_v (y := fun _ => (!((decide (1 ≤ v_parts)) && (decide (v_parts ≤ 4))))) ?_
  refine b_e ?_
  refine e_not ?_
  refine b_e ?_
  refine e_call (I_1 (H := H)) ?_
  refine a_cons ?_
  refine o_val rfl ?_
  refine a_nil ?_
  refine ce_call (.cons .nil) (s1 (n := n + 0) v_parts) ?_
  intro y1
  refine ce_asB ?_
  refine ce_asB ?_
  refine ⟨fun hk4 => ?_, ?_⟩
  · refine or_1 ?_
    refine e_not ?_
    refine b_e ?_
    refine e_chain ?_
    refine o_e rfl ?_
    refine e_lit ?_
    refine o_val rfl ?_
    refine ce_op2 (.v _) (.v _) (le_i _ _) ?_
    refine ce_asB ?_
    refine ⟨fun _ => (decide (v_parts ≤ 4)), fun hk2 => ?_, ?_⟩
    · refine o_e rfl ?_
      refine e_glob K_MOST_PARTS.h_MOST_PARTS ?_
      exact ce_op2 (.v _) (.v _) (le_i _ _) ⟨rfl, Weak.refl⟩
    refine ce_asB ?_
    exact ⟨rfl, Weak.refl⟩
  refine ce_asB ?_
  refine ⟨_, _, rfl, fun hk3 => ?_, fun hk3 => ?_⟩
  · refine k_cons ?_
    exact k_never
  · refine k_nil ?_
    refine k_nil ?_
    exact cs_end fun e f => .nx rfl ⟨rfl, rfl⟩
theorem s101 {H : PG} [C101 H] {n : Nat} (v_curve : (List (Int × Int × Int))) (v_total : Int) (v_parts : Int) : Sim (run H (n + 2) 101 [(eU (eT3 PyData.int PyData.int PyData.int)) v_curve, PyData.int v_total, PyData.int v_parts]) (t101_law_sums v_curve v_total v_parts) (eL (eT2 PyData.int PyData.int)) noneD := by
  refine fn_sim (n := n + 1) (fd := f101_law_sums) C101.h_101 rfl rfl (p0 := [some (.val ((eU (eT3 PyData.int PyData.int PyData.int)) v_curve)), some (.val (PyData.int v_total)), some (.val (PyData.int v_parts)), none, none, none, none, none, none, none, none, none]) rfl ?_
  unfold t101_law_sums
  refine k_cons ?_
  refine k_asg ?_
  refine e_lc ?_
  refine s_rng ?_
  refine a_cons ?_
  refine o_e rfl ?_
  refine e_bin ?_
  refine o_val rfl ?_
  refine o_e rfl ?_
  refine e_lit ?_
  refine ce_op2 (.v _) (.v _) (add_i v_total 1) ?_
  refine a_nil ?_
  refine ce_guard fun hg1 => ?_
  refine ce_rng1 hg1 ?_
  refine ⟨rfl, ?_⟩
  refine ce_map (g := PyData.int) (v := PyData.int) rfl rfl rfl (fun a2 => ⟨_, rfl, ?_⟩) (fun y4 => ?_)
  · refine e_call (I_8 (H := H)) ?_
    refine a_cons ?_
    refine o_val rfl ?_
    refine a_cons ?_
    refine o_val rfl ?_
    refine a_nil ?_
    refine ce_call (.cons (.cons .nil)) (s8b (n := n + 0) v_curve a2) ?_
    intro y3
    exact ⟨y3, rfl, rfl, (.same (.same (.same (.same (.same (.same (.same (.same (.same (.same (.drop trivial (.same .nil))))))))))))⟩
  refine ⟨[some (.val ((eU (eT3 PyData.int PyData.int PyData.int)) v_curve)), some (.val (PyData.int v_total)), some (.val (PyData.int v_parts)), some (.val ((eL PyData.int) y4)), none, none, none, none, none, none, none, none], rfl, ?_⟩
  refine k_cons ?_
  refine k_asg ?_
  refine e_lc ?_
  refine s_var ?_
  refine o_val rfl ?_
  refine s_list ?_
  refine ⟨rfl, ?_⟩
  refine ce_map (g := PyData.int) (v := (eT2 PyData.int PyData.int)) rfl rfl rfl (fun a5 => ⟨_, rfl, ?_⟩) (fun y6 => ?_)
  · refine e_tup ?_
    refine a_cons ?_
    refine o_val rfl ?_
    refine a_cons ?_
    refine o_val rfl ?_
    refine a_nil ?_
    refine ce_tup (.cons (.cons .nil)) rfl ?_
    exact ⟨(a5, a5), rfl, rfl, (.same (.same (.same (.same (.same (.same (.same (.same (.same (.same (.same (.drop trivial .nil))))))))))))⟩
  refine ⟨[some (.val ((eU (eT3 PyData.int PyData.int PyData.int)) v_curve)), some (.val (PyData.int v_total)), some (.val (PyData.int v_parts)), some (.val ((eL PyData.int) y4)), some (.val ((eL (eT2 PyData.int PyData.int)) y6)), none, none, none, none, none, none, none], rfl, ?_⟩
  refine k_cons ?_
  refine k_for ?_
  refine s_rng ?_
  refine a_cons ?_
  refine o_e rfl ?_
  refine e_bin ?_
  refine o_val rfl ?_
  refine o_e rfl ?_
  refine e_lit ?_
  refine ce_op2 (.v _) (.v _) (sub_i v_parts 1) ?_
  refine a_nil ?_
  refine ce_guard fun hg7 => ?_
  refine ce_rng1 hg7 ?_
  refine ⟨rfl, ?_⟩
  refine cs_forT (g := PyData.int) (s0 := y6) (fun (u8 : (List (Int × Int))) => [some (.val ((eU (eT3 PyData.int PyData.int PyData.int)) v_curve)), some (.val (PyData.int v_total)), some (.val (PyData.int v_parts)), some (.val ((eL PyData.int) y4)), some (.val ((eL (eT2 PyData.int PyData.int)) u8)), none, none, none, none, none, none, none]) rfl (.same (.same (.same (.same (.same (.same (.same (.same (.same (.same (.same (.same .nil)))))))))))) (fun _ => rfl) (fun a9 u8 => ⟨_, rfl, k_tail ?_⟩) (fun u8 => ?_)
  · refine k_cons ?_
    refine k_asgO ?_
    refine e_lst ?_
    refine a_nil ?_
    refine ce_lst .nil rfl ?_
    refine ⟨rfl, ?_⟩
    refine cs_norm (p' := [some (.val ((eU (eT3 PyData.int PyData.int PyData.int)) v_curve)), some (.val (PyData.int v_total)), some (.val (PyData.int v_parts)), some (.val ((eL PyData.int) y4)), some (.val ((eL (eT2 PyData.int PyData.int)) u8)), some (.val (PyData.int a9)), some (.own ((eL (eT2 PyData.int PyData.int)) ([] : (List (Int × Int))))), none, none, none, none, none]) rfl ?_
    refine k_cons ?_
    refine k_for ?_
    refine s_rng ?_
    refine a_cons ?_
    refine o_e rfl ?_
    refine e_bin ?_
    refine o_val rfl ?_
    refine o_e rfl ?_
    refine e_lit ?_
    refine ce_op2 (.v _) (.v _) (add_i v_total 1) ?_
    refine a_nil ?_
    refine ce_guard fun hg10 => ?_
    refine ce_rng1 hg10 ?_
    refine ⟨rfl, ?_⟩
    refine cs_forT (g := PyData.int) (s0 := []) (fun (u11 : (List (Int × Int))) => [some (.val ((eU (eT3 PyData.int PyData.int PyData.int)) v_curve)), some (.val (PyData.int v_total)), some (.val (PyData.int v_parts)), some (.val ((eL PyData.int) y4)), some (.val ((eL (eT2 PyData.int PyData.int)) u8)), some (.val (PyData.int a9)), some (.own ((eL (eT2 PyData.int PyData.int)) u11)), none, none, none, none, none]) rfl (.same (.same (.same (.same (.same (.same (.same (.same (.same (.same (.same (.same .nil)))))))))))) (fun _ => rfl) (fun a12 u11 => ⟨_, rfl, k_tail ?_⟩) (fun u11 => ?_)
    · refine k_cons ?_
      refine k_asg ?_
      refine e_lc ?_
      refine s_rng ?_
      refine a_cons ?_
      refine o_e rfl ?_
      refine e_bin ?_
      refine o_val rfl ?_
      refine o_e rfl ?_
      refine e_lit ?_
      refine ce_op2 (.v _) (.v _) (add_i a12 1) ?_
      refine a_nil ?_
      refine ce_guard fun hg13 => ?_
      refine ce_rng1 hg13 ?_
      refine ⟨rfl, ?_⟩
      refine ce_map (g := PyData.int) (v := PyData.int) rfl rfl rfl (fun a14 => ⟨_, rfl, ?_⟩) (fun y19 => ?_)
      · refine e_bin ?_
        refine o_e rfl ?_
        refine e_ix ?_
        refine o_e rfl ?_
        refine e_ix ?_
        refine o_val rfl ?_
        refine o_val rfl ?_
        refine ce_of fun y15 hy16 => ?_
        refine ce_op2 (.v _) (.v _) (ix_L (e := (eT2 PyData.int PyData.int)) hy16) ?_
        refine o_e rfl ?_
        refine e_lit ?_
        refine ce_op2 (.v _) (.v _) (ix_lit 0 rfl) ?_
        refine o_e rfl ?_
        refine e_ix ?_
        refine o_val rfl ?_
        refine o_e rfl ?_
        refine e_bin ?_
        refine o_val rfl ?_
        refine o_val rfl ?_
        refine ce_op2 (.v _) (.v _) (sub_i a12 a14) ?_
        refine ce_of fun y17 hy18 => ?_
        refine ce_op2 (.v _) (.v _) (ix_L (e := PyData.int) hy18) ?_
        refine ce_op2 (.v _) (.v _) (add_i y15.1 y17) ?_
        exact ⟨(y15.1 + y17), rfl, rfl, (.same (.same (.same (.same (.same (.same (.same (.same (.same (.same (.drop trivial (.same .nil))))))))))))⟩
      refine ⟨[some (.val ((eU (eT3 PyData.int PyData.int PyData.int)) v_curve)), some (.val (PyData.int v_total)), some (.val (PyData.int v_parts)), some (.val ((eL PyData.int) y4)), some (.val ((eL (eT2 PyData.int PyData.int)) u8)), some (.val (PyData.int a9)), some (.own ((eL (eT2 PyData.int PyData.int)) u11)), some (.val (PyData.int a12)), some (.val ((eL PyData.int) y19)), none, none, none], rfl, ?_⟩
      refine k_cons ?_
      refine k_asg ?_
      refine e_lc ?_
      refine s_rng ?_
      refine a_cons ?_
      refine o_e rfl ?_
      refine e_bin ?_
      refine o_val rfl ?_
      refine o_e rfl ?_
      refine e_lit ?_
      refine ce_op2 (.v _) (.v _) (add_i a12 1) ?_
      refine a_nil ?_
      refine ce_guard fun hg20 => ?_
      refine ce_rng1 hg20 ?_
      refine ⟨rfl, ?_⟩
      refine ce_map (g := PyData.int) (v := PyData.int) rfl rfl rfl (fun a21 => ⟨_, rfl, ?_⟩) (fun y26 => ?_)
      · refine e_bin ?_
        refine o_e rfl ?_
        refine e_ix ?_
        refine o_e rfl ?_
        refine e_ix ?_
        refine o_val rfl ?_
        refine o_val rfl ?_
        refine ce_of fun y22 hy23 => ?_
        refine ce_op2 (.v _) (.v _) (ix_L (e := (eT2 PyData.int PyData.int)) hy23) ?_
        refine o_e rfl ?_
        refine e_lit ?_
        refine ce_op2 (.v _) (.v _) (ix_lit 1 rfl) ?_
        refine o_e rfl ?_
        refine e_ix ?_
        refine o_val rfl ?_
        refine o_e rfl ?_
        refine e_bin ?_
        refine o_val rfl ?_
        refine o_val rfl ?_
        refine ce_op2 (.v _) (.v _) (sub_i a12 a21) ?_
        refine ce_of fun y24 hy25 => ?_
        refine ce_op2 (.v _) (.v _) (ix_L (e := PyData.int) hy25) ?_
        refine ce_op2 (.v _) (.v _) (add_i y22.2 y24) ?_
        exact ⟨(y22.2 + y24), rfl, rfl, (.same (.same (.same (.same (.same (.same (.same (.same (.same (.same (.drop trivial (.same .nil))))))))))))⟩
      refine ⟨[some (.val ((eU (eT3 PyData.int PyData.int PyData.int)) v_curve)), some (.val (PyData.int v_total)), some (.val (PyData.int v_parts)), some (.val ((eL PyData.int) y4)), some (.val ((eL (eT2 PyData.int PyData.int)) u8)), some (.val (PyData.int a9)), some (.own ((eL (eT2 PyData.int PyData.int)) u11)), some (.val (PyData.int a12)), some (.val ((eL PyData.int) y19)), some (.val ((eL PyData.int) y26)), none, none], rfl, ?_⟩
      refine k_cons ?_
      refine k_app (ds0 := List.map (eT2 PyData.int PyData.int) u11) (.own rfl) ?_
      refine e_tup ?_
      refine a_cons ?_
      refine o_e rfl ?_
      refine e_bi ?_
      refine a_cons ?_
      refine o_val rfl ?_
      refine a_nil ?_
      refine ce_of fun y27 hy28 => ?_
      refine ce_opN (.cons (.v _) .nil) (mx_of (maxO_L hy28)) ?_
      refine a_cons ?_
      refine o_e rfl ?_
      refine e_bi ?_
      refine a_cons ?_
      refine o_val rfl ?_
      refine a_nil ?_
      refine ce_of fun y29 hy30 => ?_
      refine ce_opN (.cons (.v _) .nil) (mn_of (minO_L hy30)) ?_
      refine a_nil ?_
      refine ce_tup (.cons (.cons .nil)) rfl ?_
      refine cs_guard fun hg31 => ?_
      refine cs_chg (.own rfl) (app_L (e := (eT2 PyData.int PyData.int)) (xs := u11) (y := (y27, y29)) hg31) ?_
      refine cs_norm (p' := [some (.val ((eU (eT3 PyData.int PyData.int PyData.int)) v_curve)), some (.val (PyData.int v_total)), some (.val (PyData.int v_parts)), some (.val ((eL PyData.int) y4)), some (.val ((eL (eT2 PyData.int PyData.int)) u8)), some (.val (PyData.int a9)), some (.own ((eL (eT2 PyData.int PyData.int)) (u11 ++ [(y27, y29)]))), some (.val (PyData.int a12)), some (.val ((eL PyData.int) y19)), some (.val ((eL PyData.int) y26)), none, none]) rfl ?_
      refine k_nil ?_
      exact tt_nx (s := (u11 ++ [(y27, y29)])) (.same (.same (.same (.same (.same (.same (.same (.drop trivial (.drop trivial (.drop trivial (.same (.same .nil))))))))))))
    refine k_cons ?_
    refine k_asg ?_
    refine e_frzo rfl ?_
    refine ⟨[some (.val ((eU (eT3 PyData.int PyData.int PyData.int)) v_curve)), some (.val (PyData.int v_total)), some (.val (PyData.int v_parts)), some (.val ((eL PyData.int) y4)), some (.val ((eL (eT2 PyData.int PyData.int)) u11)), some (.val (PyData.int a9)), some (.val ((eL (eT2 PyData.int PyData.int)) u11)), none, none, none, none, none], rfl, ?_⟩
    refine k_nil ?_
    exact tt_nx (s := u11) (.same (.same (.same (.same (.same (.drop trivial (.drop trivial (.same (.same (.same (.same (.same .nil))))))))))))
  refine k_cons ?_
  refine k_ret ?_
  refine e_var rfl ?_
  exact fun e f => .rt ⟨rfl, rfl⟩
theorem s3 {H : PG} [C3 H] {n : Nat} (v_value : (List (Int × Int × Int))) : Sim (run H (n + 3) 3 [(eU (eT3 PyData.int PyData.int PyData.int)) v_value]) (t3_is_curve v_value) PyData.bool noneD := by
  refine fn_sim (n := n + 2) (fd := f3_is_curve) C3.h_3 rfl rfl (p0 := [some (.val ((eU (eT3 PyData.int PyData.int PyData.int)) v_value)), none, none, none]) rfl ?_
  unfold t3_is_curve
  refine k_cons ?_
  refine k_ite ?_
  refine b_e ?_
  refine e_or ?_
  refine or_v (y := fun _ => (!((decide (1 ≤ ((List.length v_value : Nat) : Int))) && (decide (((List.length v_value : Nat) : Int) ≤ 24))))) ?_
  refine b_e ?_
  refine e_not ?_
  refine b_e ?_
  refine e_isi1 ?_
  refine o_val rfl ?_
  refine ce_op1 (.v _) rfl ?_
  refine ce_asB ?_
  refine ce_asB ?_
  refine ⟨fun hk14 => ?_, ?_⟩
  · refine or_1 ?_
    refine e_not ?_
    refine b_e ?_
    refine e_chain ?_
    refine o_e rfl ?_
    refine e_lit ?_
    refine o_e rfl ?_
    refine e_bi ?_
    refine a_cons ?_
    refine o_val rfl ?_
    refine a_nil ?_
    refine ce_opN (.cons (.v _) .nil) (len_U (e := (eT3 PyData.int PyData.int PyData.int)) _) ?_
    refine ce_op2 (.v _) (.v _) (le_i _ _) ?_
    refine ce_asB ?_
    refine ⟨fun _ => (decide (((List.length v_value : Nat) : Int) ≤ 24)), fun hk1 => ?_, ?_⟩
    · refine o_e rfl ?_
      refine e_glob K_MOST_PIECES.h_MOST_PIECES ?_
      exact ce_op2 (.v _) (.v _) (le_i _ _) ⟨rfl, Weak.refl⟩
    refine ce_asB ?_
    exact ⟨rfl, Weak.refl⟩
  refine ce_asB ?_
  refine ⟨_, _, rfl, fun hk2 => ?_, fun hk2 => ?_⟩
  · refine k_cons ?_
    refine k_ret ?_
    refine e_lit ?_
    exact fun e f => .rt ⟨rfl, rfl⟩
  · refine k_nil ?_
    refine k_cons ?_
    refine k_asg ?_
    refine e_neg ?_
    refine o_e rfl ?_
    refine e_lit ?_
    refine ce_op1 (.v _) (neg_i _) ?_
    refine ⟨[some (.val ((eU (eT3 PyData.int PyData.int PyData.int)) v_value)), some (.val (PyData.int (-1))), none, none], rfl, ?_⟩
    refine k_cons ?_
    refine k_for ?_
    refine s_var ?_
    refine o_val rfl ?_
    refine s_tuple ?_
    refine ⟨rfl, ?_⟩
    refine cs_forC (g := (eT3 PyData.int PyData.int PyData.int)) (s0 := (-1)) (fun (u3 : Int) => [some (.val ((eU (eT3 PyData.int PyData.int PyData.int)) v_value)), some (.val (PyData.int u3)), none, none]) (RQf none PyData.bool noneD) rfl (.same (.same (.same (.same .nil)))) (fun _ => rfl) (fun a4 u3 => ⟨_, rfl, k_tail ?_⟩) (fun _ _ _ h => .rt h) (fun u3 => ?_)
    · refine k_cons ?_
      refine k_ite ?_
      refine b_e ?_
      refine e_or ?_
      refine or_v (y := fun _ => (decide (3 ≠ 3))) ?_
      refine b_e ?_
      refine e_not ?_
      refine b_e ?_
      refine e_isi1 ?_
      refine o_val rfl ?_
      refine ce_op1 (.v _) rfl ?_
      refine ce_asB ?_
      refine ce_asB ?_
      refine ⟨fun hk11 => ?_, ?_⟩
      · refine or_1 ?_
        refine e_cmp ?_
        refine o_e rfl ?_
        refine e_bi ?_
        refine a_cons ?_
        refine o_val rfl ?_
        refine a_nil ?_
        refine ce_opN (.cons (.v _) .nil) (rfl) ?_
        refine o_e rfl ?_
        refine e_lit ?_
        refine ce_op2 (.v _) (.v _) (ne_T (eqT_int) (by decide) 3 3) ?_
        exact ⟨rfl, Weak.refl⟩
      refine ce_asB ?_
      refine ⟨_, _, rfl, fun hk5 => ?_, fun hk5 => ?_⟩
      · refine k_cons ?_
        refine k_ret ?_
        refine e_lit ?_
        exact fun e f => .rt ⟨rfl, rfl⟩
      · refine k_nil ?_
        refine k_cons ?_
        refine k_ite ?_
        refine b_e ?_
        refine e_or ?_
        refine or_v (y := fun _ => (decide (a4.1 ≤ u3))) ?_
        refine b_e ?_
        refine e_not ?_
        refine b_e ?_
        refine e_bi ?_
        refine a_cons ?_
        refine o_e rfl ?_
        refine e_lc ?_
        refine s_var ?_
        refine o_val rfl ?_
        refine s_tuple ?_
        refine ⟨rfl, ?_⟩
        refine ce_map (g := PyData.int) (v := PyData.bool) rfl rfl rfl (fun a6 => ⟨_, rfl, ?_⟩) (fun y8 => ?_)
        · refine e_call (I_2 (H := H)) ?_
          refine a_cons ?_
          refine o_val rfl ?_
          refine a_cons ?_
          refine o_e rfl ?_
          refine e_glob K_GREATEST.h_GREATEST ?_
          refine a_nil ?_
          refine ce_call (.cons (.cons .nil)) (s2 (n := n + 0) a6 10000000000000000000000000000000000000000) ?_
          intro y7
          exact ⟨y7, rfl, rfl, (.same (.same (.same (.drop trivial .nil))))⟩
        refine a_nil ?_
        refine ce_opN (.cons (.v _) .nil) (all_L _) ?_
        refine ce_asB ?_
        refine ce_asB ?_
        refine ⟨fun hk10 => ?_, ?_⟩
        · refine or_1 ?_
          refine e_cmp ?_
          refine o_e rfl ?_
          refine e_ix ?_
          refine o_val rfl ?_
          refine o_e rfl ?_
          refine e_lit ?_
          refine ce_op2 (.v _) (.v _) (ix_lit 0 rfl) ?_
          refine o_val rfl ?_
          refine ce_op2 (.v _) (.v _) (le_i _ _) ?_
          exact ⟨rfl, Weak.refl⟩
        refine ce_asB ?_
        refine ⟨_, _, rfl, fun hk9 => ?_, fun hk9 => ?_⟩
        · refine k_cons ?_
          refine k_ret ?_
          refine e_lit ?_
          exact fun e f => .rt ⟨rfl, rfl⟩
        · refine k_nil ?_
          refine k_cons ?_
          refine k_asg ?_
          refine e_ix ?_
          refine o_val rfl ?_
          refine o_e rfl ?_
          refine e_lit ?_
          refine ce_op2 (.v _) (.v _) (ix_lit 0 rfl) ?_
          refine ⟨[some (.val ((eU (eT3 PyData.int PyData.int PyData.int)) v_value)), some (.val (PyData.int a4.1)), some (.val ((eT3 PyData.int PyData.int PyData.int) a4)), none], rfl, ?_⟩
          refine k_nil ?_
          exact tq_nx (s := a4.1) (.same (.same (.drop trivial (.same .nil))))
    refine k_cons ?_
    refine k_ret ?_
    refine e_cmp ?_
    refine o_e rfl ?_
    refine e_ix ?_
    refine o_e rfl ?_
    refine e_ix ?_
    refine o_val rfl ?_
    refine o_e rfl ?_
    refine e_lit ?_
    refine ce_of fun y12 hy13 => ?_
    refine ce_op2 (.v _) (.v _) (ix_U (e := (eT3 PyData.int PyData.int PyData.int)) hy13) ?_
    refine o_e rfl ?_
    refine e_lit ?_
    refine ce_op2 (.v _) (.v _) (ix_lit 0 rfl) ?_
    refine o_e rfl ?_
    refine e_lit ?_
    refine ce_op2 (.v _) (.v _) (eq_T (eqT_int) (by decide) y12.1 0) ?_
    exact fun e f => .rt ⟨rfl, rfl⟩
theorem s16 {H : PG} [C16 H] {n : Nat} (v_value : Int) : Sim (run H (n + 3) 16 [PyData.int v_value]) (t16_check_natural v_value) eN noneD := by
  refine fn_sim (n := n + 2) (fd := f16_check_natural) C16.h_16 rfl rfl (p0 := [some (.val (PyData.int v_value))]) rfl ?_
  unfold t16_check_natural
  refine k_cons ?_
  refine k_ite ?_
  refine b_e ?_
  refine e_not ?_
  refine b_e ?_
  refine e_call (I_15 (H := H)) ?_
  refine a_cons ?_
  refine o_val rfl ?_
  refine a_nil ?_
  refine ce_call (.cons .nil) (s15 (n := n + 0) v_value) ?_
  intro y1
  refine ce_asB ?_
  refine ce_asB ?_
  refine ⟨_, _, rfl, fun hk2 => ?_, fun hk2 => ?_⟩
  · refine k_cons ?_
    exact k_never
  · refine k_nil ?_
    refine k_nil ?_
    exact cs_end fun e f => .nx rfl ⟨rfl, rfl⟩
theorem s100 {H : PG} [C100 H] {n : Nat} (v_source : Sc) : SimI (run H (n + 3) 100 [eX v_source]) (t100_law_small v_source) (fun y => (eU (eT3 PyData.int PyData.int PyData.int)) y.1) (fun y => eX y.2) := by
  refine fn_simI (i := 0) (n := n + 2) (fd := f100_law_small) C100.h_100 rfl rfl (p0 := [some (.io (eX v_source)), none, none, none]) rfl ?_
  unfold t100_law_small
  refine k_cons ?_
  refine k_par2 ?_
  refine e_lst ?_
  refine a_nil ?_
  refine ce_lst .nil rfl ?_
  refine e_lit ?_
  refine ⟨rfl, rfl, ?_⟩
  refine cs_norm (p' := [some (.io (eX v_source)), some (.own ((eL (eT3 PyData.int PyData.int PyData.int)) ([] : (List (Int × Int × Int))))), some (.val (PyData.int 0)), none]) rfl ?_
  refine k_cons ?_
  refine k_for ?_
  refine s_rng ?_
  refine a_cons ?_
  refine o_e rfl ?_
  refine e_bin ?_
  refine o_e rfl ?_
  refine e_lit ?_
  refine o_e rfl ?_
  refine e_call (I_5 (H := H)) ?_
  refine a_cons ?_
  refine o_io rfl ?_
  refine a_cons ?_
  refine o_e rfl ?_
  refine e_lit ?_
  refine a_nil ?_
  refine ce_callI (.io rfl) (.here (.cons .nil)) (s5 (n := n + 1) v_source 5) ?_
  intro y1
  refine ce_op2 (.v _) (.v _) (add_i 1 y1.1) ?_
  refine a_nil ?_
  refine ce_guard fun hg2 => ?_
  refine ce_rng1 hg2 ?_
  refine ⟨rfl, ?_⟩
  refine cs_forT (g := PyData.int) (s0 := (y1.2, [], 0)) (fun (u3 : (Sc × (List (Int × Int × Int)) × Int)) => [some (.io (eX u3.1)), some (.own ((eL (eT3 PyData.int PyData.int PyData.int)) u3.2.1)), some (.val (PyData.int u3.2.2)), none]) rfl (.same (.same (.same (.same .nil)))) (fun _ => rfl) (fun a4 u3 => ⟨_, rfl, k_tail ?_⟩) (fun u3 => ?_)
  · refine k_cons ?_
    refine k_app (ds0 := List.map (eT3 PyData.int PyData.int PyData.int) u3.2.1) (.own rfl) ?_
    refine e_tup ?_
    refine a_cons ?_
    refine o_val rfl ?_
    refine a_cons ?_
    refine o_e rfl ?_
    refine e_bin ?_
    refine o_e rfl ?_
    refine e_call (I_5 (H := H)) ?_
    refine a_cons ?_
    refine o_io rfl ?_
    refine a_cons ?_
    refine o_e rfl ?_
    refine e_lit ?_
    refine a_nil ?_
    refine ce_callI (.io rfl) (.here (.cons .nil)) (s5 (n := n + 1) u3.1 61) ?_
    intro y5
    refine o_e rfl ?_
    refine e_lit ?_
    refine ce_op2 (.v _) (.v _) (sub_i y5.1 30) ?_
    refine a_cons ?_
    refine o_e rfl ?_
    refine e_call (I_6 (H := H)) ?_
    refine a_cons ?_
    refine o_io rfl ?_
    refine a_cons ?_
    refine o_e rfl ?_
    refine e_lst ?_
    refine a_cons ?_
    refine o_e rfl ?_
    refine e_lit ?_
    refine a_cons ?_
    refine o_e rfl ?_
    refine e_lit ?_
    refine a_cons ?_
    refine o_e rfl ?_
    refine e_lit ?_
    refine a_cons ?_
    refine o_e rfl ?_
    refine e_lit ?_
    refine a_cons ?_
    refine o_e rfl ?_
    refine e_bin ?_
    refine o_e rfl ?_
    refine e_lit ?_
    refine o_e rfl ?_
    refine e_lit ?_
    refine ce_op2 (.v _) (.v _) (sub_i 0 1) ?_
    refine a_cons ?_
    refine o_e rfl ?_
    refine e_bin ?_
    refine o_e rfl ?_
    refine e_lit ?_
    refine o_e rfl ?_
    refine e_lit ?_
    refine ce_op2 (.v _) (.v _) (sub_i 0 4) ?_
    refine a_cons ?_
    refine o_e rfl ?_
    refine e_lit ?_
    refine a_nil ?_
    refine ce_lst (.cons (.cons (.cons (.cons (.cons (.cons (.cons .nil))))))) rfl ?_
    refine a_nil ?_
    refine ce_callI (.io rfl) (.here (.cons .nil)) (s6l (n := n + 0) PyData.int y5.2 ([0, 1, 2, 5, (0 - 1), (0 - 4), 9] : (List Int))) ?_
    intro y6
    refine a_nil ?_
    refine ce_tup (.cons (.cons (.cons .nil))) rfl ?_
    refine cs_guard fun hg7 => ?_
    refine cs_chg (.own rfl) (app_L (e := (eT3 PyData.int PyData.int PyData.int)) (xs := u3.2.1) (y := (u3.2.2, (y5.1 - 30), y6.1)) hg7) ?_
    refine cs_norm (p' := [some (.io (eX y6.2)), some (.own ((eL (eT3 PyData.int PyData.int PyData.int)) (u3.2.1 ++ [(u3.2.2, (y5.1 - 30), y6.1)]))), some (.val (PyData.int u3.2.2)), some (.val (PyData.int a4))]) rfl ?_
    refine k_cons ?_
    refine k_asg ?_
    refine e_bin ?_
    refine o_e rfl ?_
    refine e_bin ?_
    refine o_val rfl ?_
    refine o_e rfl ?_
    refine e_lit ?_
    refine ce_op2 (.v _) (.v _) (add_i u3.2.2 1) ?_
    refine o_e rfl ?_
    refine e_call (I_5 (H := H)) ?_
    refine a_cons ?_
    refine o_io rfl ?_
    refine a_cons ?_
    refine o_e rfl ?_
    refine e_lit ?_
    refine a_nil ?_
    refine ce_callI (.io rfl) (.here (.cons .nil)) (s5 (n := n + 1) y6.2 5) ?_
    intro y8
    refine ce_op2 (.v _) (.v _) (add_i (u3.2.2 + 1) y8.1) ?_
    refine ⟨[some (.io (eX y8.2)), some (.own ((eL (eT3 PyData.int PyData.int PyData.int)) (u3.2.1 ++ [(u3.2.2, (y5.1 - 30), y6.1)]))), some (.val (PyData.int ((u3.2.2 + 1) + y8.1))), some (.val (PyData.int a4))], rfl, ?_⟩
    refine k_nil ?_
    exact tt_nx (s := (y8.2, (u3.2.1 ++ [(u3.2.2, (y5.1 - 30), y6.1)]), ((u3.2.2 + 1) + y8.1))) (.same (.same (.same (.drop trivial .nil))))
  refine k_cons ?_
  refine k_ret ?_
  refine e_bi ?_
  refine a_cons ?_
  refine o_own rfl ?_
  refine a_nil ?_
  refine ce_opN (.cons (.own rfl) .nil) (tup_L (e := (eT3 PyData.int PyData.int PyData.int)) _) ?_
  exact fun e f => .rt ⟨rfl, fit_get f rfl⟩
theorem s17 {H : PG} [C17 H] {n : Nat} (v_value : (List (Int × Int × Int))) : Sim (run H (n + 4) 17 [(eU (eT3 PyData.int PyData.int PyData.int)) v_value]) (t17_check_curve v_value) eN noneD := by
  refine fn_sim (n := n + 3) (fd := f17_check_curve) C17.h_17 rfl rfl (p0 := [some (.val ((eU (eT3 PyData.int PyData.int PyData.int)) v_value))]) rfl ?_
  unfold t17_check_curve
  refine k_cons ?_
  refine k_ite ?_
  refine b_e ?_
  refine e_not ?_
  refine b_e ?_
  refine e_call (I_3 (H := H)) ?_
  refine a_cons ?_
  refine o_val rfl ?_
  refine a_nil ?_
  refine ce_call (.cons .nil) (s3 (n := n + 0) v_value) ?_
  intro y1
  refine ce_asB ?_
  refine ce_asB ?_
  refine ⟨_, _, rfl, fun hk2 => ?_, fun hk2 => ?_⟩
  · refine k_cons ?_
    exact k_never
  · refine k_nil ?_
    refine k_nil ?_
    exact cs_end fun e f => .nx rfl ⟨rfl, rfl⟩
theorem s95 {H : PG} [C95 H] {n : Nat} : ∀ (d : Nat) (v_items : (List Int)) (v_total : Int) (v_many : Int), Sim (run H (n + (d + 0)) 95 [(eL PyData.int) v_items, PyData.int v_total, PyData.int v_many]) (t95_picked d v_items v_total v_many) (eL (eU PyData.int)) noneD
  | 0, _, _, _ => trivial
  | d + 1, v_items, v_total, v_many => by
    refine fn_sim (n := n + (d + 0)) (fd := f95_picked) C95.h_95 rfl rfl (p0 := [some (.val ((eL PyData.int) v_items)), some (.val (PyData.int v_total)), some (.val (PyData.int v_many)), none, none, none]) rfl ?_
    rw [t95_picked]
    refine k_cons ?_
    refine k_ite ?_
    refine b_e ?_
    refine e_cmp ?_
    refine o_val rfl ?_
    refine o_e rfl ?_
    refine e_lit ?_
    refine ce_op2 (.v _) (.v _) (eq_T (eqT_int) (by decide) v_many 0) ?_
    refine ce_asB ?_
    refine ⟨_, _, rfl, fun hk1 => ?_, fun hk1 => ?_⟩
    · refine k_cons ?_
      refine k_ret ?_
      refine e_lst ?_
      refine a_cons ?_
      refine o_e rfl ?_
      refine e_tup ?_
      refine a_nil ?_
      refine ce_tup .nil rfl ?_
      refine a_nil ?_
      refine ce_lst (.cons .nil) rfl ?_
      exact fun e f => .rt ⟨rfl, rfl⟩
    · refine k_nil ?_
      refine k_cons ?_
      refine k_asg ?_
      refine e_lst ?_
      refine a_nil ?_
      refine ce_lst .nil rfl ?_
      refine ⟨[some (.val ((eL PyData.int) v_items)), some (.val (PyData.int v_total)), some (.val (PyData.int v_many)), some (.val ((eL (eU PyData.int)) ([] : (List (List Int))))), none, none], rfl, ?_⟩
      refine k_cons ?_
      refine k_for ?_
      refine s_rng ?_
      refine a_cons ?_
      refine o_e rfl ?_
      refine e_bi ?_
      refine a_cons ?_
      refine o_val rfl ?_
      refine a_nil ?_
      refine ce_opN (.cons (.v _) .nil) (len_L (e := PyData.int) _) ?_
      refine a_nil ?_
      refine ce_guard fun hg2 => ?_
      refine ce_rng1 hg2 ?_
      refine ⟨rfl, ?_⟩
      refine cs_forT (g := PyData.int) (s0 := []) (fun (u3 : (List (List Int))) => [some (.val ((eL PyData.int) v_items)), some (.val (PyData.int v_total)), some (.val (PyData.int v_many)), some (.val ((eL (eU PyData.int)) u3)), none, none]) rfl (.same (.same (.same (.same (.same (.same .nil)))))) (fun _ => rfl) (fun a4 u3 => ⟨_, rfl, k_tail ?_⟩) (fun u3 => ?_)
      · refine k_cons ?_
        refine k_sub (σ := (List (List Int))) (fun (u5 : (List (List Int))) => [some (.val ((eL PyData.int) v_items)), some (.val (PyData.int v_total)), some (.val (PyData.int v_many)), some (.val ((eL (eU PyData.int)) u5)), some (.val (PyData.int a4)), none]) ?_ ?_
        · refine k_ite ?_
          refine b_e ?_
          refine e_cmp ?_
          refine o_e rfl ?_
          refine e_bin ?_
          refine o_e rfl ?_
          refine e_ix ?_
          refine o_val rfl ?_
          refine o_val rfl ?_
          refine ce_of fun y6 hy7 => ?_
          refine ce_op2 (.v _) (.v _) (ix_L (e := PyData.int) hy7) ?_
          refine o_val rfl ?_
          refine ce_guard fun hg18 => ?_
          refine ce_op2 (.v _) (.v _) (mul_i y6 v_many hg18) ?_
          refine o_val rfl ?_
          refine ce_op2 (.v _) (.v _) (le_i _ _) ?_
          refine ce_asB ?_
          refine ⟨_, _, rfl, fun hk8 => ?_, fun hk8 => ?_⟩
          · refine k_cons ?_
            refine k_asg ?_
            refine e_bin ?_
            refine o_val rfl ?_
            refine o_e rfl ?_
            refine e_lc ?_
            refine s_e rfl ?_
            refine e_call (I_95 (H := H)) ?_
            refine a_cons ?_
            refine o_e rfl ?_
            refine e_slc ?_
            refine o_val rfl ?_
            refine sb_e rfl ?_
            refine e_var rfl ?_
            refine ce_asI ?_
            refine sb_nil ?_
            refine ce_slc (.v _) (slc_L (e := PyData.int) _ _ _) ?_
            refine a_cons ?_
            refine o_e rfl ?_
            refine e_bin ?_
            refine o_val rfl ?_
            refine o_e rfl ?_
            refine e_ix ?_
            refine o_val rfl ?_
            refine o_val rfl ?_
            refine ce_of fun y9 hy10 => ?_
            refine ce_op2 (.v _) (.v _) (ix_L (e := PyData.int) hy10) ?_
            refine ce_op2 (.v _) (.v _) (sub_i v_total y9) ?_
            refine a_cons ?_
            refine o_e rfl ?_
            refine e_bin ?_
            refine o_val rfl ?_
            refine o_e rfl ?_
            refine e_lit ?_
            refine ce_op2 (.v _) (.v _) (sub_i v_many 1) ?_
            refine a_nil ?_
            refine ce_call (.cons (.cons (.cons .nil))) (s95 (H := H) (n := n) d (cutG v_items (some a4) none) (v_total - y9) (v_many - 1)) ?_
            intro y11
            refine s_list ?_
            refine ⟨rfl, ?_⟩
            refine ce_map (g := (eU PyData.int)) (v := (eU PyData.int)) rfl rfl rfl (fun a12 => ⟨_, rfl, ?_⟩) (fun y16 => ?_)
            · refine e_bin ?_
              refine o_e rfl ?_
              refine e_tup ?_
              refine a_cons ?_
              refine o_e rfl ?_
              refine e_ix ?_
              refine o_val rfl ?_
              refine o_val rfl ?_
              refine ce_of fun y13 hy14 => ?_
              refine ce_op2 (.v _) (.v _) (ix_L (e := PyData.int) hy14) ?_
              refine a_nil ?_
              refine ce_tup (.cons .nil) rfl ?_
              refine o_val rfl ?_
              refine ce_guard fun hg15 => ?_
              refine ce_op2 (.v _) (.v _) (add_U (e := PyData.int) (xs := [y13]) (ys := a12) hg15) ?_
              exact ⟨([y13] ++ a12), rfl, rfl, (.same (.same (.same (.same (.same (.drop trivial .nil))))))⟩
            refine ce_guard fun hg17 => ?_
            refine ce_op2 (.v _) (.v _) (add_L (e := (eU PyData.int)) (xs := u3) (ys := y16) hg17) ?_
            refine ⟨[some (.val ((eL PyData.int) v_items)), some (.val (PyData.int v_total)), some (.val (PyData.int v_many)), some (.val ((eL (eU PyData.int)) (u3 ++ y16))), some (.val (PyData.int a4)), none], rfl, ?_⟩
            refine k_nil ?_
            exact goq (s := (u3 ++ y16)) (.same (.same (.same (.same (.same (.same .nil))))))
          · refine k_nil ?_
            exact goq (s := u3) (.same (.same (.same (.same (.same (.same .nil))))))
        intro u5
        refine k_nil ?_
        exact tt_nx (s := u5) (.same (.same (.same (.same (.drop trivial (.same .nil))))))
      refine k_cons ?_
      refine k_ret ?_
      refine e_var rfl ?_
      exact fun e f => .rt ⟨rfl, rfl⟩
theorem s97 {H : PG} [C97 H] {n : Nat} (v_curve : (List (Int × Int × Int))) (v_total : Int) (v_parts : Int) : Sim (run H (n + 5) 97 [(eU (eT3 PyData.int PyData.int PyData.int)) v_curve, PyData.int v_total, PyData.int v_parts]) (t97_check_split v_curve v_total v_parts) eN noneD := by
  refine fn_sim (n := n + 4) (fd := f97_check_split) C97.h_97 rfl rfl (p0 := [some (.val ((eU (eT3 PyData.int PyData.int PyData.int)) v_curve)), some (.val (PyData.int v_total)), some (.val (PyData.int v_parts))]) rfl ?_
  unfold t97_check_split
  refine k_cons ?_
  refine k_expr ?_
  refine e_call (I_17 (H := H)) ?_
  refine a_cons ?_
  refine o_val rfl ?_
  refine a_nil ?_
  refine ce_call (.cons .nil) (s17 (n := n + 0) v_curve) ?_
  intro y1
  refine k_cons ?_
  refine k_expr ?_
  refine e_call (I_16 (H := H)) ?_
  refine a_cons ?_
  refine o_val rfl ?_
  refine a_nil ?_
  refine ce_call (.cons .nil) (s16 (n := n + 1) v_total) ?_
  intro y2
  refine k_cons ?_
  refine k_expr ?_
  refine e_call (I_94 (H := H)) ?_
  refine a_cons ?_
  refine o_val rfl ?_
  refine a_nil ?_
  refine ce_call (.cons .nil) (s94 (n := n + 2) v_parts) ?_
  intro y3
  refine k_nil ?_
  exact cs_end fun e f => .nx rfl ⟨rfl, rfl⟩
theorem s96 {H : PG} [C96 H] {n : Nat} (v_curve : (List (Int × Int × Int))) (v_total : Int) (v_parts : Int) : Sim (run H (n + 6) 96 [(eU (eT3 PyData.int PyData.int PyData.int)) v_curve, PyData.int v_total, PyData.int v_parts]) (t96_all_splits v_curve v_total v_parts) (eL (eT2 PyData.int (eU PyData.int))) noneD := by
  refine fn_sim (n := n + 5) (fd := f96_all_splits) C96.h_96 rfl rfl (p0 := [some (.val ((eU (eT3 PyData.int PyData.int PyData.int)) v_curve)), some (.val (PyData.int v_total)), some (.val (PyData.int v_parts)), none, none, none, none]) rfl ?_
  unfold t96_all_splits
  refine k_cons ?_
  refine k_asgO ?_
  refine e_lst ?_
  refine a_nil ?_
  refine ce_lst .nil rfl ?_
  refine ⟨rfl, ?_⟩
  refine cs_norm (p' := [some (.val ((eU (eT3 PyData.int PyData.int PyData.int)) v_curve)), some (.val (PyData.int v_total)), some (.val (PyData.int v_parts)), some (.own ((eL (eT2 PyData.int (eU PyData.int))) ([] : (List (Int × (List Int)))))), none, none, none]) rfl ?_
  refine k_cons ?_
  refine k_for ?_
  refine s_e rfl ?_
  refine e_call (I_95 (H := H)) ?_
  refine a_cons ?_
  refine o_e rfl ?_
  refine e_call (I_75 (H := H)) ?_
  refine a_cons ?_
  refine o_val rfl ?_
  refine a_nil ?_
  refine ce_call (.cons .nil) (s75 (n := n + 4) v_curve) ?_
  intro y1
  refine a_cons ?_
  refine o_val rfl ?_
  refine a_cons ?_
  refine o_e rfl ?_
  refine e_bin ?_
  refine o_val rfl ?_
  refine o_e rfl ?_
  refine e_lit ?_
  refine ce_op2 (.v _) (.v _) (sub_i v_parts 1) ?_
  refine a_nil ?_
  refine ce_call (.cons (.cons (.cons .nil))) (s95 (n := n + 0) 5 y1 v_total (v_parts - 1)) ?_
  intro y2
  refine s_list ?_
  refine ⟨rfl, ?_⟩
  refine cs_forT (g := (eU PyData.int)) (s0 := []) (fun (u3 : (List (Int × (List Int)))) => [some (.val ((eU (eT3 PyData.int PyData.int PyData.int)) v_curve)), some (.val (PyData.int v_total)), some (.val (PyData.int v_parts)), some (.own ((eL (eT2 PyData.int (eU PyData.int))) u3)), none, none, none]) rfl (.same (.same (.same (.same (.same (.same (.same .nil))))))) (fun _ => rfl) (fun a4 u3 => ⟨_, rfl, k_tail ?_⟩) (fun u3 => ?_)
  · refine k_cons ?_
    refine k_asg ?_
    refine e_bin ?_
    refine o_val rfl ?_
    refine o_e rfl ?_
    refine e_tup ?_
    refine a_cons ?_
    refine o_e rfl ?_
    refine e_bin ?_
    refine o_val rfl ?_
    refine o_e rfl ?_
    refine e_bi ?_
    refine a_cons ?_
    refine o_val rfl ?_
    refine a_nil ?_
    refine ce_opN (.cons (.v _) .nil) (sum_U _) ?_
    refine ce_op2 (.v _) (.v _) (sub_i v_total (List.sum a4)) ?_
    refine a_nil ?_
    refine ce_tup (.cons .nil) rfl ?_
    refine ce_guard fun hg9 => ?_
    refine ce_op2 (.v _) (.v _) (add_U (e := PyData.int) (xs := a4) (ys := [(v_total - (List.sum a4))]) hg9) ?_
    refine ⟨[some (.val ((eU (eT3 PyData.int PyData.int PyData.int)) v_curve)), some (.val (PyData.int v_total)), some (.val (PyData.int v_parts)), some (.own ((eL (eT2 PyData.int (eU PyData.int))) u3)), some (.val ((eU PyData.int) a4)), some (.val ((eU PyData.int) (a4 ++ [(v_total - (List.sum a4))]))), none], rfl, ?_⟩
    refine k_cons ?_
    refine k_app (ds0 := List.map (eT2 PyData.int (eU PyData.int)) u3) (.own rfl) ?_
    refine e_tup ?_
    refine a_cons ?_
    refine o_e rfl ?_
    refine e_bi ?_
    refine a_cons ?_
    refine o_e rfl ?_
    refine e_lc ?_
    refine s_var ?_
    refine o_val rfl ?_
    refine s_tuple ?_
    refine ⟨rfl, ?_⟩
    refine ce_map (g := PyData.int) (v := PyData.int) rfl rfl rfl (fun a5 => ⟨_, rfl, ?_⟩) (fun y7 => ?_)
    · refine e_call (I_19 (H := H)) ?_
      refine a_cons ?_
      refine o_val rfl ?_
      refine a_cons ?_
      refine o_val rfl ?_
      refine a_nil ?_
      refine ce_call (.cons (.cons .nil)) (s19 (n := n + 3) v_curve a5) ?_
      intro y6
      exact ⟨y6, rfl, rfl, (.same (.same (.same (.same (.same (.same (.drop trivial .nil)))))))⟩
    refine a_nil ?_
    refine ce_opN (.cons (.v _) .nil) (sm_of (sum_L _)) ?_
    refine a_cons ?_
    refine o_val rfl ?_
    refine a_nil ?_
    refine ce_tup (.cons (.cons .nil)) rfl ?_
    refine cs_guard fun hg8 => ?_
    refine cs_chg (.own rfl) (app_L (e := (eT2 PyData.int (eU PyData.int))) (xs := u3) (y := ((List.sum y7), (a4 ++ [(v_total - (List.sum a4))]))) hg8) ?_
    refine cs_norm (p' := [some (.val ((eU (eT3 PyData.int PyData.int PyData.int)) v_curve)), some (.val (PyData.int v_total)), some (.val (PyData.int v_parts)), some (.own ((eL (eT2 PyData.int (eU PyData.int))) (u3 ++ [((List.sum y7), (a4 ++ [(v_total - (List.sum a4))]))]))), some (.val ((eU PyData.int) a4)), some (.val ((eU PyData.int) (a4 ++ [(v_total - (List.sum a4))]))), none]) rfl ?_
    refine k_nil ?_
    exact tt_nx (s := (u3 ++ [((List.sum y7), (a4 ++ [(v_total - (List.sum a4))]))])) (.same (.same (.same (.same (.drop trivial (.drop trivial (.same .nil)))))))
  refine k_cons ?_
  refine k_ret ?_
  refine e_frzo rfl ?_
  exact fun e f => .rt ⟨rfl, rfl⟩
theorem s98 {H : PG} [C98 H] {n : Nat} (v_curve : (List (Int × Int × Int))) (v_total : Int) (v_parts : Int) : Sim (run H (n + 7) 98 [(eU (eT3 PyData.int PyData.int PyData.int)) v_curve, PyData.int v_total, PyData.int v_parts]) (t98_best_split v_curve v_total v_parts) (eT2 PyData.int (eU PyData.int)) noneD := by
  refine fn_sim (n := n + 6) (fd := f98_best_split) C98.h_98 rfl rfl (p0 := [some (.val ((eU (eT3 PyData.int PyData.int PyData.int)) v_curve)), some (.val (PyData.int v_total)), some (.val (PyData.int v_parts))]) rfl ?_
  unfold t98_best_split
  refine k_cons ?_
  refine k_expr ?_
  refine e_call (I_97 (H := H)) ?_
  refine a_cons ?_
  refine o_val rfl ?_
  refine a_cons ?_
  refine o_val rfl ?_
  refine a_cons ?_
  refine o_val rfl ?_
  refine a_nil ?_
  refine ce_call (.cons (.cons (.cons .nil))) (s97 (n := n + 1) v_curve v_total v_parts) ?_
  intro y1
  refine k_cons ?_
  refine k_ret ?_
  refine e_bi ?_
  refine a_cons ?_
  refine o_e rfl ?_
  refine e_call (I_96 (H := H)) ?_
  refine a_cons ?_
  refine o_val rfl ?_
  refine a_cons ?_
  refine o_val rfl ?_
  refine a_cons ?_
  refine o_val rfl ?_
  refine a_nil ?_
  refine ce_call (.cons (.cons (.cons .nil))) (s96 (n := n + 0) v_curve v_total v_parts) ?_
  intro y2
  refine a_nil ?_
  refine ce_of fun y3 hy4 => ?_
  refine ce_opN (.cons (.v _) .nil) (mx_T (e := (eT2 PyData.int (eU PyData.int))) (ordT_T2 ordT_int (ordT_U ordT_int eqT_int) eqT_int (eqT_U eqT_int)) ((eqT_T2 (EqT.up eqT_int (by decide : 0 ≤ 1)) (EqT.up (eqT_U eqT_int) (by decide : 1 ≤ 1)))) (by decide) (xs := y2) (d := ((eL (eT2 PyData.int (eU PyData.int))) y2)) rfl (mx0 (fun _ => rfl)) hy4) ?_
  exact fun e f => .rt ⟨rfl, rfl⟩
theorem s99 {H : PG} [C99 H] {n : Nat} (v_curve : (List (Int × Int × Int))) (v_total : Int) (v_parts : Int) : Sim (run H (n + 7) 99 [(eU (eT3 PyData.int PyData.int PyData.int)) v_curve, PyData.int v_total, PyData.int v_parts]) (t99_worst_split v_curve v_total v_parts) (eT2 PyData.int (eU PyData.int)) noneD := by
  refine fn_sim (n := n + 6) (fd := f99_worst_split) C99.h_99 rfl rfl (p0 := [some (.val ((eU (eT3 PyData.int PyData.int PyData.int)) v_curve)), some (.val (PyData.int v_total)), some (.val (PyData.int v_parts))]) rfl ?_
  unfold t99_worst_split
  refine k_cons ?_
  refine k_expr ?_
  refine e_call (I_97 (H := H)) ?_
  refine a_cons ?_
  refine o_val rfl ?_
  refine a_cons ?_
  refine o_val rfl ?_
  refine a_cons ?_
  refine o_val rfl ?_
  refine a_nil ?_
  refine ce_call (.cons (.cons (.cons .nil))) (s97 (n := n + 1) v_curve v_total v_parts) ?_
  intro y1
  refine k_cons ?_
  refine k_ret ?_
  refine e_bi ?_
  refine a_cons ?_
  refine o_e rfl ?_
  refine e_call (I_96 (H := H)) ?_
  refine a_cons ?_
  refine o_val rfl ?_
  refine a_cons ?_
  refine o_val rfl ?_
  refine a_cons ?_
  refine o_val rfl ?_
  refine a_nil ?_
  refine ce_call (.cons (.cons (.cons .nil))) (s96 (n := n + 0) v_curve v_total v_parts) ?_
  intro y2
  refine a_nil ?_
  refine ce_of fun y3 hy4 => ?_
  refine ce_opN (.cons (.v _) .nil) (mn_T (e := (eT2 PyData.int (eU PyData.int))) (ordT_T2 ordT_int (ordT_U ordT_int eqT_int) eqT_int (eqT_U eqT_int)) ((eqT_T2 (EqT.up eqT_int (by decide : 0 ≤ 1)) (EqT.up (eqT_U eqT_int) (by decide : 1 ≤ 1)))) (by decide) (xs := y2) (d := ((eL (eT2 PyData.int (eU PyData.int))) y2)) rfl (mn0 (fun _ => rfl)) hy4) ?_
  exact fun e f => .rt ⟨rfl, rfl⟩
theorem s102 {H : PG} [C102 H] {n : Nat} (v_curve : (List (Int × Int × Int))) (v_total : Int) (v_parts : Int) (v_found : (Int × (List Int))) (v_meant : Int) : Sim (run H (n + 9) 102 [(eU (eT3 PyData.int PyData.int PyData.int)) v_curve, PyData.int v_total, PyData.int v_parts, (eT2 PyData.int (eU PyData.int)) v_found, PyData.int v_meant]) (t102_law_shows v_curve v_total v_parts v_found v_meant) PyData.bool noneD := by
  refine fn_sim (n := n + 8) (fd := f102_law_shows) C102.h_102 rfl rfl (p0 := [some (.val ((eU (eT3 PyData.int PyData.int PyData.int)) v_curve)), some (.val (PyData.int v_total)), some (.val (PyData.int v_parts)), some (.val ((eT2 PyData.int (eU PyData.int)) v_found)), some (.val (PyData.int v_meant)), none, none]) rfl ?_
  unfold t102_law_shows
  refine k_cons ?_
  refine k_ite ?_
  refine b_e ?_
  refine e_or ?_
  refine or_v (y := fun _ => ((decide (2 ≠ 2)) || (!(decide (v_found.1 = v_meant))))) ?_
  refine b_e ?_
  refine e_not ?_
  refine b_e ?_
  refine e_isi1 ?_
  refine o_val rfl ?_
  refine ce_op1 (.v _) rfl ?_
  refine ce_asB ?_
  refine ce_asB ?_
  refine ⟨fun hk18 => ?_, ?_⟩
  · refine or_v (y := fun _ => (!(decide (v_found.1 = v_meant)))) ?_
    refine b_e ?_
    refine e_cmp ?_
    refine o_e rfl ?_
    refine e_bi ?_
    refine a_cons ?_
    refine o_val rfl ?_
    refine a_nil ?_
    refine ce_opN (.cons (.v _) .nil) (rfl) ?_
    refine o_e rfl ?_
    refine e_lit ?_
    refine ce_op2 (.v _) (.v _) (ne_T (eqT_int) (by decide) 2 2) ?_
    refine ce_asB ?_
    refine ⟨fun hk2 => ?_, ?_⟩
    · refine or_1 ?_
      refine e_not ?_
      refine b_e ?_
      refine e_call (I_7 (H := H)) ?_
      refine a_cons ?_
      refine o_e rfl ?_
      refine e_ix ?_
      refine o_val rfl ?_
      refine o_e rfl ?_
      refine e_lit ?_
      refine ce_op2 (.v _) (.v _) (ix_lit 0 rfl) ?_
      refine a_cons ?_
      refine o_val rfl ?_
      refine a_nil ?_
      refine ce_call0 (.cons (.cons .nil)) (s7_eq (n := n + 0) (ok := (fun _ => true)) leq_int v_found.1 v_meant rfl) ?_
      refine ce_asB ?_
      exact ⟨rfl, Weak.refl⟩
    exact ⟨rfl, Weak.refl⟩
  refine ce_asB ?_
  refine ⟨_, _, rfl, fun hk3 => ?_, fun hk3 => ?_⟩
  · refine k_cons ?_
    refine k_ret ?_
    refine e_lit ?_
    exact fun e f => .rt ⟨rfl, rfl⟩
  · refine k_nil ?_
    refine k_cons ?_
    refine k_asg ?_
    refine e_ix ?_
    refine o_val rfl ?_
    refine o_e rfl ?_
    refine e_lit ?_
    refine ce_op2 (.v _) (.v _) (ix_lit 1 rfl) ?_
    refine ⟨[some (.val ((eU (eT3 PyData.int PyData.int PyData.int)) v_curve)), some (.val (PyData.int v_total)), some (.val (PyData.int v_parts)), some (.val ((eT2 PyData.int (eU PyData.int)) v_found)), some (.val (PyData.int v_meant)), some (.val ((eU PyData.int) v_found.2)), none], rfl, ?_⟩
    refine k_cons ?_
    refine k_ite ?_
    refine b_e ?_
    refine ce_sub (v := PyData.bool) (p2 := fun _ => [some (.val ((eU (eT3 PyData.int PyData.int PyData.int)) v_curve)), some (.val (PyData.int v_total)), some (.val (PyData.int v_parts)), some (.val ((eT2 PyData.int (eU PyData.int)) v_found)), some (.val (PyData.int v_meant)), some (.val ((eU PyData.int) v_found.2)), none]) ?_ ?_
    · refine e_or ?_
      refine or_c ?_
      refine b_e ?_
      refine e_not ?_
      refine b_e ?_
      refine e_isi1 ?_
      refine o_val rfl ?_
      refine ce_op1 (.v _) rfl ?_
      refine ce_asB ?_
      refine ce_asB ?_
      refine ⟨_, _, rfl, fun hk5 => ?_, fun hk5 => ?_⟩
      · exact ⟨true, rfl, rfl, (.same (.same (.same (.same (.same (.same (.same .nil)))))))⟩
      · refine or_c ?_
        refine b_e ?_
        refine e_cmp ?_
        refine o_e rfl ?_
        refine e_bi ?_
        refine a_cons ?_
        refine o_val rfl ?_
        refine a_nil ?_
        refine ce_opN (.cons (.v _) .nil) (len_U (e := PyData.int) _) ?_
        refine o_val rfl ?_
        refine ce_op2 (.v _) (.v _) (ne_T (eqT_int) (by decide) ((List.length v_found.2 : Nat) : Int) v_parts) ?_
        refine ce_asB ?_
        refine ⟨_, _, rfl, fun hk6 => ?_, fun hk6 => ?_⟩
        · exact ⟨true, rfl, rfl, (.same (.same (.same (.same (.same (.same (.same .nil)))))))⟩
        · refine or_1 ?_
          refine e_cmp ?_
          refine o_e rfl ?_
          refine e_lc ?_
          refine s_var ?_
          refine o_val rfl ?_
          refine s_tuple ?_
          refine ⟨rfl, ?_⟩
          refine ce_fil (g := PyData.int) (v := PyData.int) rfl rfl rfl (fun a7 => ⟨_, rfl, ?_⟩) (fun y11 => ?_)
          · unfold Elt
            refine b_e ?_
            refine e_or ?_
            refine or_v (y := fun _ => (decide (a7 < 0))) ?_
            refine b_e ?_
            refine e_not ?_
            refine b_e ?_
            refine e_call (I_28 (H := H)) ?_
            refine a_cons ?_
            refine o_val rfl ?_
            refine a_nil ?_
            refine ce_call (.cons .nil) (s28 (n := n + 7) a7) ?_
            intro y8
            refine ce_asB ?_
            refine ce_asB ?_
            refine ⟨fun hk10 => ?_, ?_⟩
            · refine or_1 ?_
              refine e_cmp ?_
              refine o_val rfl ?_
              refine o_e rfl ?_
              refine e_lit ?_
              refine ce_op2 (.v _) (.v _) (lt_i _ _) ?_
              exact ⟨rfl, Weak.refl⟩
            refine ce_asB ?_
            refine elt_if (fun hk9 => ?_) (.same (.same (.same (.same (.same (.same (.drop trivial .nil)))))))
            refine e_var rfl ?_
            exact ⟨a7, rfl, rfl, (.same (.same (.same (.same (.same (.same (.drop trivial .nil)))))))⟩
          refine o_e rfl ?_
          refine e_lst ?_
          refine a_nil ?_
          refine ce_lst .nil rfl ?_
          refine ce_op2 (.v _) (.v _) (ne_T ((eqT_L eqT_int)) (by decide) y11 ([] : (List Int))) ?_
          exact ⟨(decide (y11 ≠ ([] : (List Int)))), rfl, rfl, (.same (.same (.same (.same (.same (.same (.same .nil)))))))⟩
    intro y4
    refine ce_asB ?_
    refine ⟨_, _, rfl, fun hk12 => ?_, fun hk12 => ?_⟩
    · refine k_cons ?_
      refine k_ret ?_
      refine e_lit ?_
      exact fun e f => .rt ⟨rfl, rfl⟩
    · refine k_nil ?_
      refine k_cons ?_
      refine k_ret ?_
      refine ce_sub (v := PyData.bool) (p2 := fun _ => [some (.val ((eU (eT3 PyData.int PyData.int PyData.int)) v_curve)), some (.val (PyData.int v_total)), some (.val (PyData.int v_parts)), some (.val ((eT2 PyData.int (eU PyData.int)) v_found)), some (.val (PyData.int v_meant)), some (.val ((eU PyData.int) v_found.2)), none]) ?_ ?_
      · refine e_and ?_
        refine and_c ?_
        refine b_e ?_
        refine e_cmp ?_
        refine o_e rfl ?_
        refine e_bi ?_
        refine a_cons ?_
        refine o_val rfl ?_
        refine a_nil ?_
        refine ce_opN (.cons (.v _) .nil) (sum_U _) ?_
        refine o_val rfl ?_
        refine ce_op2 (.v _) (.v _) (eq_T (eqT_int) (by decide) (List.sum v_found.2) v_total) ?_
        refine ce_asB ?_
        refine ⟨_, _, rfl, fun hk14 => ?_, fun hk14 => ?_⟩
        · refine and_1 ?_
          refine e_cmp ?_
          refine o_e rfl ?_
          refine e_bi ?_
          refine a_cons ?_
          refine o_e rfl ?_
          refine e_lc ?_
          refine s_var ?_
          refine o_val rfl ?_
          refine s_tuple ?_
          refine ⟨rfl, ?_⟩
          refine ce_map (g := PyData.int) (v := PyData.int) rfl rfl rfl (fun a15 => ⟨_, rfl, ?_⟩) (fun y17 => ?_)
          · refine e_call (I_8 (H := H)) ?_
            refine a_cons ?_
            refine o_val rfl ?_
            refine a_cons ?_
            refine o_val rfl ?_
            refine a_nil ?_
            refine ce_call (.cons (.cons .nil)) (s8b (n := n + 7) v_curve a15) ?_
            intro y16
            exact ⟨y16, rfl, rfl, (.same (.same (.same (.same (.same (.same (.drop trivial .nil)))))))⟩
          refine a_nil ?_
          refine ce_opN (.cons (.v _) .nil) (sm_of (sum_L _)) ?_
          refine o_val rfl ?_
          refine ce_op2 (.v _) (.v _) (eq_T (eqT_int) (by decide) (List.sum y17) v_meant) ?_
          exact ⟨(decide ((List.sum y17) = v_meant)), rfl, rfl, (.same (.same (.same (.same (.same (.same (.same .nil)))))))⟩
        · exact ⟨false, rfl, rfl, (.same (.same (.same (.same (.same (.same (.same .nil)))))))⟩
      intro y13
      exact fun e f => .rt ⟨rfl, rfl⟩
class CLaw (H : PG) : Prop extends C4 H, C5 H, C98 H, C99 H, C100 H, C101 H, C102 H
theorem s_law {H : PG} [CLaw H] {n : Nat} (v_script : List Int) : Sim (runB H.I (run H (n + 9)) f103_law [eL PyData.int v_script]) (t103_law v_script) PyData.bool noneD := by
  refine fn_simB (PI := H.I) (cf := run H (n + 9)) (fd := f103_law) rfl rfl (p0 := [some (.val ((eL PyData.int) v_script)), none, none, none, none, none, none, none]) rfl ?_
  unfold t103_law
  refine k_cons ?_
  refine k_for ?_
  refine s_e rfl ?_
  refine e_slc ?_
  refine o_e rfl ?_
  refine e_bin ?_
  refine o_e rfl ?_
  refine e_lst ?_
  refine a_cons ?_
  refine o_e rfl ?_
  refine e_lit ?_
  refine a_nil ?_
  refine ce_lst (.cons .nil) rfl ?_
  refine o_val rfl ?_
  refine ce_guard fun hg16 => ?_
  refine ce_op2 (.v _) (.v _) (add_L (e := PyData.int) (xs := [0]) (ys := v_script) hg16) ?_
  refine sb_nil ?_
  refine sb_e rfl ?_
  refine e_lit ?_
  refine ce_asI ?_
  refine ce_slc (.v _) (slc_L (e := PyData.int) _ _ _) ?_
  refine s_list ?_
  refine ⟨rfl, ?_⟩
  refine cs_forC (g := PyData.int) (s0 := ()) (fun (u1 : Unit) => [some (.val ((eL PyData.int) v_script)), none, none, none, none, none, none, none]) (RQf none PyData.bool noneD) rfl (.same (.same (.same (.same (.same (.same (.same (.same .nil)))))))) (fun _ => rfl) (fun a2 u1 => ⟨_, rfl, k_tail ?_⟩) (fun _ _ _ h => .rt h) (fun u1 => ?_)
  · refine k_cons ?_
    refine k_asgO ?_
    refine e_call (I_4 (H := H)) ?_
    refine a_cons ?_
    refine o_val rfl ?_
    refine a_cons ?_
    refine o_e rfl ?_
    refine e_lit ?_
    refine a_nil ?_
    refine ce_call (.cons (.cons .nil)) (s4 (n := n + 8) a2 11) ?_
    intro y3
    refine ⟨rfl, ?_⟩
    refine cs_norm (p' := [some (.val ((eL PyData.int) v_script)), some (.val (PyData.int a2)), some (.own (eX y3)), none, none, none, none, none]) rfl ?_
    refine k_cons ?_
    refine k_par3 ?_
    refine e_call (I_100 (H := H)) ?_
    refine a_cons ?_
    refine o_own rfl ?_
    refine a_nil ?_
    refine ce_callI (.own rfl) (.here .nil) (s100 (n := n + 6) y3) ?_
    intro y4
    refine e_call (I_5 (H := H)) ?_
    refine a_cons ?_
    refine o_own rfl ?_
    refine a_cons ?_
    refine o_e rfl ?_
    refine e_lit ?_
    refine a_nil ?_
    refine ce_callI (.own rfl) (.here (.cons .nil)) (s5 (n := n + 8) y4.2 31) ?_
    intro y5
    refine e_bin ?_
    refine o_e rfl ?_
    refine e_lit ?_
    refine o_e rfl ?_
    refine e_call (I_5 (H := H)) ?_
    refine a_cons ?_
    refine o_own rfl ?_
    refine a_cons ?_
    refine o_e rfl ?_
    refine e_lit ?_
    refine a_nil ?_
    refine ce_callI (.own rfl) (.here (.cons .nil)) (s5 (n := n + 8) y5.2 4) ?_
    intro y6
    refine ce_op2 (.v _) (.v _) (add_i 1 y6.1) ?_
    refine ⟨rfl, rfl, rfl, ?_⟩
    refine cs_norm (p' := [some (.val ((eL PyData.int) v_script)), some (.val (PyData.int a2)), some (.own (eX y6.2)), some (.val ((eU (eT3 PyData.int PyData.int PyData.int)) y4.1)), some (.val (PyData.int y5.1)), some (.val (PyData.int (1 + y6.1))), none, none]) rfl ?_
    refine k_cons ?_
    refine k_asg ?_
    refine e_ix ?_
    refine o_e rfl ?_
    refine e_call (I_101 (H := H)) ?_
    refine a_cons ?_
    refine o_val rfl ?_
    refine a_cons ?_
    refine o_val rfl ?_
    refine a_cons ?_
    refine o_val rfl ?_
    refine a_nil ?_
    refine ce_call (.cons (.cons (.cons .nil))) (s101 (n := n + 7) y4.1 y5.1 (1 + y6.1)) ?_
    intro y7
    refine o_val rfl ?_
    refine ce_of fun y8 hy9 => ?_
    refine ce_op2 (.v _) (.v _) (ix_L (e := (eT2 PyData.int PyData.int)) hy9) ?_
    refine ⟨[some (.val ((eL PyData.int) v_script)), some (.val (PyData.int a2)), some (.own (eX y6.2)), some (.val ((eU (eT3 PyData.int PyData.int PyData.int)) y4.1)), some (.val (PyData.int y5.1)), some (.val (PyData.int (1 + y6.1))), some (.val (PyData.int y8.1)), some (.val (PyData.int y8.2))], rfl, ?_⟩
    refine k_cons ?_
    refine k_ite ?_
    refine b_e ?_
    refine e_not ?_
    refine b_e ?_
    refine e_call (I_102 (H := H)) ?_
    refine a_cons ?_
    refine o_val rfl ?_
    refine a_cons ?_
    refine o_val rfl ?_
    refine a_cons ?_
    refine o_val rfl ?_
    refine a_cons ?_
    refine o_e rfl ?_
    refine e_call (I_98 (H := H)) ?_
    refine a_cons ?_
    refine o_val rfl ?_
    refine a_cons ?_
    refine o_val rfl ?_
    refine a_cons ?_
    refine o_val rfl ?_
    refine a_nil ?_
    refine ce_call (.cons (.cons (.cons .nil))) (s98 (n := n + 2) y4.1 y5.1 (1 + y6.1)) ?_
    intro y10
    refine a_cons ?_
    refine o_val rfl ?_
    refine a_nil ?_
    refine ce_call (.cons (.cons (.cons (.cons (.cons .nil))))) (s102 (n := n + 0) y4.1 y5.1 (1 + y6.1) y10 y8.1) ?_
    intro y11
    refine ce_asB ?_
    refine ce_asB ?_
    refine ⟨_, _, rfl, fun hk12 => ?_, fun hk12 => ?_⟩
    · refine k_cons ?_
      refine k_ret ?_
      refine e_lit ?_
      exact fun e f => .rt ⟨rfl, rfl⟩
    · refine k_nil ?_
      refine k_cons ?_
      refine k_ite ?_
      refine b_e ?_
      refine e_not ?_
      refine b_e ?_
      refine e_call (I_102 (H := H)) ?_
      refine a_cons ?_
      refine o_val rfl ?_
      refine a_cons ?_
      refine o_val rfl ?_
      refine a_cons ?_
      refine o_val rfl ?_
      refine a_cons ?_
      refine o_e rfl ?_
      refine e_call (I_99 (H := H)) ?_
      refine a_cons ?_
      refine o_val rfl ?_
      refine a_cons ?_
      refine o_val rfl ?_
      refine a_cons ?_
      refine o_val rfl ?_
      refine a_nil ?_
      refine ce_call (.cons (.cons (.cons .nil))) (s99 (n := n + 2) y4.1 y5.1 (1 + y6.1)) ?_
      intro y13
      refine a_cons ?_
      refine o_val rfl ?_
      refine a_nil ?_
      refine ce_call (.cons (.cons (.cons (.cons (.cons .nil))))) (s102 (n := n + 0) y4.1 y5.1 (1 + y6.1) y13 y8.2) ?_
      intro y14
      refine ce_asB ?_
      refine ce_asB ?_
      refine ⟨_, _, rfl, fun hk15 => ?_, fun hk15 => ?_⟩
      · refine k_cons ?_
        refine k_ret ?_
        refine e_lit ?_
        exact fun e f => .rt ⟨rfl, rfl⟩
      · refine k_nil ?_
        refine k_nil ?_
        exact tq_nx (s := ()) (.same (.drop trivial (.drop trivial (.drop trivial (.drop trivial (.drop trivial (.drop trivial (.drop trivial .nil))))))))
  refine k_cons ?_
  refine k_ret ?_
  refine e_lit ?_
  exact fun e f => .rt ⟨rfl, rfl⟩
end Tp
namespace Tp
open PySem PySem.Spec PyProof.Rows L2
def G : PG := ⟨[(1, f1_is_integer), (2, f2_is_short), (15, f15_is_natural), (16, f16_check_natural), (3, f3_is_curve), (17, f17_check_curve), (18, f18_piece_at), (19, f19_worth), (75, f75_corners), (94, f94_check_parts), (95, f95_picked), (96, f96_all_splits), (97, f97_check_split), (98, f98_best_split), (99, f99_worst_split), (4, f4_law_source), (5, f5_law_draw), (6, f6_law_choice), (7, f7_law_equal), (8, f8_law_at), (28, f28_law_is_whole), (100, f100_law_small), (101, f101_law_sums), (102, f102_law_shows)],
  [("MOST_PIECES", (.int 24)), ("GREATEST", (.int 10000000000000000000000000000000000000000)), ("MOST_PARTS", (.int 4))]⟩
instance : K_MOST_PIECES G := { h_MOST_PIECES := rfl }
instance : K_MOST_PARTS G := { h_MOST_PARTS := rfl }
instance : K_GREATEST G := { h_GREATEST := rfl }
instance : C1 G := { h_1 := rfl }
instance : C2 G := { h_2 := rfl, h_1 := rfl }
instance : C15 G := { h_1 := rfl, h_15 := rfl, h_GREATEST := rfl }
instance : C16 G := { h_16 := rfl, h_1 := rfl, h_15 := rfl, h_GREATEST := rfl }
instance : C3 G := { h_2 := rfl, h_1 := rfl, h_3 := rfl, h_GREATEST := rfl, h_MOST_PIECES := rfl }
instance : C17 G := { h_2 := rfl, h_17 := rfl, h_1 := rfl, h_3 := rfl, h_GREATEST := rfl, h_MOST_PIECES := rfl }
instance : C18 G := { h_18 := rfl }
instance : C19 G := { h_18 := rfl, h_19 := rfl }
instance : C75 G := { h_75 := rfl }
instance : C94 G := { h_94 := rfl, h_1 := rfl, h_MOST_PARTS := rfl }
instance : C95 G := { h_95 := rfl }
instance : C96 G := { h_95 := rfl, h_96 := rfl, h_75 := rfl, h_19 := rfl, h_18 := rfl }
instance : C97 G := { h_15 := rfl, h_17 := rfl, h_2 := rfl, h_1 := rfl, h_97 := rfl, h_3 := rfl, h_94 := rfl, h_16 := rfl, h_GREATEST := rfl, h_MOST_PARTS := rfl, h_MOST_PIECES := rfl }
instance : C98 G := { h_95 := rfl, h_96 := rfl, h_75 := rfl, h_98 := rfl, h_15 := rfl, h_18 := rfl, h_19 := rfl, h_17 := rfl, h_2 := rfl, h_97 := rfl, h_1 := rfl, h_3 := rfl, h_94 := rfl, h_16 := rfl, h_GREATEST := rfl, h_MOST_PARTS := rfl, h_MOST_PIECES := rfl }
instance : C99 G := { h_95 := rfl, h_99 := rfl, h_96 := rfl, h_75 := rfl, h_15 := rfl, h_18 := rfl, h_19 := rfl, h_17 := rfl, h_2 := rfl, h_97 := rfl, h_1 := rfl, h_3 := rfl, h_94 := rfl, h_16 := rfl, h_GREATEST := rfl, h_MOST_PARTS := rfl, h_MOST_PIECES := rfl }
instance : C4 G := { h_4 := rfl }
instance : C5 G := { h_5 := rfl }
instance : C6 G := { h_5 := rfl, h_6 := rfl }
instance : C7 G := { h_7 := rfl }
instance : C8 G := { h_8 := rfl }
instance : C28 G := { h_28 := rfl }
instance : C100 G := { h_6 := rfl, h_5 := rfl, h_100 := rfl }
instance : C101 G := { h_101 := rfl, h_8 := rfl }
instance : C102 G := { h_102 := rfl, h_7 := rfl, h_8 := rfl, h_28 := rfl }
instance : CLaw G := { h_1 := rfl, h_2 := rfl, h_3 := rfl, h_4 := rfl, h_5 := rfl, h_6 := rfl, h_7 := rfl, h_8 := rfl, h_15 := rfl, h_16 := rfl, h_17 := rfl, h_18 := rfl, h_19 := rfl, h_28 := rfl, h_75 := rfl, h_94 := rfl, h_95 := rfl, h_96 := rfl, h_97 := rfl, h_98 := rfl, h_99 := rfl, h_100 := rfl, h_101 := rfl, h_102 := rfl, h_GREATEST := rfl, h_MOST_PARTS := rfl, h_MOST_PIECES := rfl }
abbrev top (i : Nat) : Stmt := PySem.Challenge.pw_tierpay_k11_best_and_worst_splits.main.body.getD i (.Pass ⟨0, 0, 0, 0⟩)
theorem c_f1_is_integer : chk G.I f1_is_integer (top 7) = true := by decide +kernel
theorem c_f2_is_short : chk G.I f2_is_short (top 8) = true := by decide +kernel
theorem c_f15_is_natural : chk G.I f15_is_natural (top 9) = true := by decide +kernel
theorem c_f16_check_natural : chk G.I f16_check_natural (top 10) = true := by decide +kernel
theorem c_f3_is_curve : chk G.I f3_is_curve (top 11) = true := by decide +kernel
theorem c_f17_check_curve : chk G.I f17_check_curve (top 12) = true := by decide +kernel
theorem c_f18_piece_at : chk G.I f18_piece_at (top 13) = true := by decide +kernel
theorem c_f19_worth : chk G.I f19_worth (top 14) = true := by decide +kernel
theorem c_f75_corners : chk G.I f75_corners (top 16) = true := by decide +kernel
theorem c_f94_check_parts : chk G.I f94_check_parts (top 19) = true := by decide +kernel
theorem c_f95_picked : chk G.I f95_picked (top 20) = true := by decide +kernel
theorem c_f96_all_splits : chk G.I f96_all_splits (top 21) = true := by decide +kernel
theorem c_f97_check_split : chk G.I f97_check_split (top 22) = true := by decide +kernel
theorem c_f98_best_split : chk G.I f98_best_split (top 23) = true := by decide +kernel
theorem c_f99_worst_split : chk G.I f99_worst_split (top 24) = true := by decide +kernel
theorem c_f4_law_source : chk G.I f4_law_source (top 26) = true := by decide +kernel
theorem c_f5_law_draw : chk G.I f5_law_draw (top 27) = true := by decide +kernel
theorem c_f6_law_choice : chk G.I f6_law_choice (top 28) = true := by decide +kernel
theorem c_f7_law_equal : chk G.I f7_law_equal (top 29) = true := by decide +kernel
theorem c_f8_law_at : chk G.I f8_law_at (top 30) = true := by decide +kernel
theorem c_f28_law_is_whole : chk G.I f28_law_is_whole (top 31) = true := by decide +kernel
theorem c_f100_law_small : chk G.I f100_law_small (top 32) = true := by decide +kernel
theorem c_f101_law_sums : chk G.I f101_law_sums (top 33) = true := by decide +kernel
theorem c_f102_law_shows : chk G.I f102_law_shows (top 34) = true := by decide +kernel
theorem c_f103_law : chk G.I f103_law (top 35) = true := by decide +kernel
theorem b_f1_is_integer (kV doc pm : Value) (an : Option Addr) (cdv ct : Value) (us : List Value) (hl : us.length = f1_is_integer.ps.length) : bindArgs (PySem.W.fnOf f1_is_integer.name f1_is_integer.name (defArgs (top 7)) (defBody (top 7)) (defScope (top 7)) .none kV doc pm an cdv ct) ⟨us, []⟩ = pure (f1_is_integer.ps.zip us) :=
  match us, hl with | [_], _ => rfl
theorem b_f2_is_short (kV doc pm : Value) (an : Option Addr) (cdv ct : Value) (us : List Value) (hl : us.length = f2_is_short.ps.length) : bindArgs (PySem.W.fnOf f2_is_short.name f2_is_short.name (defArgs (top 8)) (defBody (top 8)) (defScope (top 8)) .none kV doc pm an cdv ct) ⟨us, []⟩ = pure (f2_is_short.ps.zip us) :=
  match us, hl with | [_, _], _ => rfl
theorem b_f15_is_natural (kV doc pm : Value) (an : Option Addr) (cdv ct : Value) (us : List Value) (hl : us.length = f15_is_natural.ps.length) : bindArgs (PySem.W.fnOf f15_is_natural.name f15_is_natural.name (defArgs (top 9)) (defBody (top 9)) (defScope (top 9)) .none kV doc pm an cdv ct) ⟨us, []⟩ = pure (f15_is_natural.ps.zip us) :=
  match us, hl with | [_], _ => rfl
theorem b_f16_check_natural (kV doc pm : Value) (an : Option Addr) (cdv ct : Value) (us : List Value) (hl : us.length = f16_check_natural.ps.length) : bindArgs (PySem.W.fnOf f16_check_natural.name f16_check_natural.name (defArgs (top 10)) (defBody (top 10)) (defScope (top 10)) .none kV doc pm an cdv ct) ⟨us, []⟩ = pure (f16_check_natural.ps.zip us) :=
  match us, hl with | [_], _ => rfl
theorem b_f3_is_curve (kV doc pm : Value) (an : Option Addr) (cdv ct : Value) (us : List Value) (hl : us.length = f3_is_curve.ps.length) : bindArgs (PySem.W.fnOf f3_is_curve.name f3_is_curve.name (defArgs (top 11)) (defBody (top 11)) (defScope (top 11)) .none kV doc pm an cdv ct) ⟨us, []⟩ = pure (f3_is_curve.ps.zip us) :=
  match us, hl with | [_], _ => rfl
theorem b_f17_check_curve (kV doc pm : Value) (an : Option Addr) (cdv ct : Value) (us : List Value) (hl : us.length = f17_check_curve.ps.length) : bindArgs (PySem.W.fnOf f17_check_curve.name f17_check_curve.name (defArgs (top 12)) (defBody (top 12)) (defScope (top 12)) .none kV doc pm an cdv ct) ⟨us, []⟩ = pure (f17_check_curve.ps.zip us) :=
  match us, hl with | [_], _ => rfl
theorem b_f18_piece_at (kV doc pm : Value) (an : Option Addr) (cdv ct : Value) (us : List Value) (hl : us.length = f18_piece_at.ps.length) : bindArgs (PySem.W.fnOf f18_piece_at.name f18_piece_at.name (defArgs (top 13)) (defBody (top 13)) (defScope (top 13)) .none kV doc pm an cdv ct) ⟨us, []⟩ = pure (f18_piece_at.ps.zip us) :=
  match us, hl with | [_, _], _ => rfl
theorem b_f19_worth (kV doc pm : Value) (an : Option Addr) (cdv ct : Value) (us : List Value) (hl : us.length = f19_worth.ps.length) : bindArgs (PySem.W.fnOf f19_worth.name f19_worth.name (defArgs (top 14)) (defBody (top 14)) (defScope (top 14)) .none kV doc pm an cdv ct) ⟨us, []⟩ = pure (f19_worth.ps.zip us) :=
  match us, hl with | [_, _], _ => rfl
theorem b_f75_corners (kV doc pm : Value) (an : Option Addr) (cdv ct : Value) (us : List Value) (hl : us.length = f75_corners.ps.length) : bindArgs (PySem.W.fnOf f75_corners.name f75_corners.name (defArgs (top 16)) (defBody (top 16)) (defScope (top 16)) .none kV doc pm an cdv ct) ⟨us, []⟩ = pure (f75_corners.ps.zip us) :=
  match us, hl with | [_], _ => rfl
theorem b_f94_check_parts (kV doc pm : Value) (an : Option Addr) (cdv ct : Value) (us : List Value) (hl : us.length = f94_check_parts.ps.length) : bindArgs (PySem.W.fnOf f94_check_parts.name f94_check_parts.name (defArgs (top 19)) (defBody (top 19)) (defScope (top 19)) .none kV doc pm an cdv ct) ⟨us, []⟩ = pure (f94_check_parts.ps.zip us) :=
  match us, hl with | [_], _ => rfl
theorem b_f95_picked (kV doc pm : Value) (an : Option Addr) (cdv ct : Value) (us : List Value) (hl : us.length = f95_picked.ps.length) : bindArgs (PySem.W.fnOf f95_picked.name f95_picked.name (defArgs (top 20)) (defBody (top 20)) (defScope (top 20)) .none kV doc pm an cdv ct) ⟨us, []⟩ = pure (f95_picked.ps.zip us) :=
  match us, hl with | [_, _, _], _ => rfl
theorem b_f96_all_splits (kV doc pm : Value) (an : Option Addr) (cdv ct : Value) (us : List Value) (hl : us.length = f96_all_splits.ps.length) : bindArgs (PySem.W.fnOf f96_all_splits.name f96_all_splits.name (defArgs (top 21)) (defBody (top 21)) (defScope (top 21)) .none kV doc pm an cdv ct) ⟨us, []⟩ = pure (f96_all_splits.ps.zip us) :=
  match us, hl with | [_, _, _], _ => rfl
theorem b_f97_check_split (kV doc pm : Value) (an : Option Addr) (cdv ct : Value) (us : List Value) (hl : us.length = f97_check_split.ps.length) : bindArgs (PySem.W.fnOf f97_check_split.name f97_check_split.name (defArgs (top 22)) (defBody (top 22)) (defScope (top 22)) .none kV doc pm an cdv ct) ⟨us, []⟩ = pure (f97_check_split.ps.zip us) :=
  match us, hl with | [_, _, _], _ => rfl
theorem b_f98_best_split (kV doc pm : Value) (an : Option Addr) (cdv ct : Value) (us : List Value) (hl : us.length = f98_best_split.ps.length) : bindArgs (PySem.W.fnOf f98_best_split.name f98_best_split.name (defArgs (top 23)) (defBody (top 23)) (defScope (top 23)) .none kV doc pm an cdv ct) ⟨us, []⟩ = pure (f98_best_split.ps.zip us) :=
  match us, hl with | [_, _, _], _ => rfl
theorem b_f99_worst_split (kV doc pm : Value) (an : Option Addr) (cdv ct : Value) (us : List Value) (hl : us.length = f99_worst_split.ps.length) : bindArgs (PySem.W.fnOf f99_worst_split.name f99_worst_split.name (defArgs (top 24)) (defBody (top 24)) (defScope (top 24)) .none kV doc pm an cdv ct) ⟨us, []⟩ = pure (f99_worst_split.ps.zip us) :=
  match us, hl with | [_, _, _], _ => rfl
theorem b_f4_law_source (kV doc pm : Value) (an : Option Addr) (cdv ct : Value) (us : List Value) (hl : us.length = f4_law_source.ps.length) : bindArgs (PySem.W.fnOf f4_law_source.name f4_law_source.name (defArgs (top 26)) (defBody (top 26)) (defScope (top 26)) .none kV doc pm an cdv ct) ⟨us, []⟩ = pure (f4_law_source.ps.zip us) :=
  match us, hl with | [_, _], _ => rfl
theorem b_f5_law_draw (kV doc pm : Value) (an : Option Addr) (cdv ct : Value) (us : List Value) (hl : us.length = f5_law_draw.ps.length) : bindArgs (PySem.W.fnOf f5_law_draw.name f5_law_draw.name (defArgs (top 27)) (defBody (top 27)) (defScope (top 27)) .none kV doc pm an cdv ct) ⟨us, []⟩ = pure (f5_law_draw.ps.zip us) :=
  match us, hl with | [_, _], _ => rfl
theorem b_f6_law_choice (kV doc pm : Value) (an : Option Addr) (cdv ct : Value) (us : List Value) (hl : us.length = f6_law_choice.ps.length) : bindArgs (PySem.W.fnOf f6_law_choice.name f6_law_choice.name (defArgs (top 28)) (defBody (top 28)) (defScope (top 28)) .none kV doc pm an cdv ct) ⟨us, []⟩ = pure (f6_law_choice.ps.zip us) :=
  match us, hl with | [_, _], _ => rfl
theorem b_f7_law_equal (kV doc pm : Value) (an : Option Addr) (cdv ct : Value) (us : List Value) (hl : us.length = f7_law_equal.ps.length) : bindArgs (PySem.W.fnOf f7_law_equal.name f7_law_equal.name (defArgs (top 29)) (defBody (top 29)) (defScope (top 29)) .none kV doc pm an cdv ct) ⟨us, []⟩ = pure (f7_law_equal.ps.zip us) :=
  match us, hl with | [_, _], _ => rfl
theorem b_f8_law_at (kV doc pm : Value) (an : Option Addr) (cdv ct : Value) (us : List Value) (hl : us.length = f8_law_at.ps.length) : bindArgs (PySem.W.fnOf f8_law_at.name f8_law_at.name (defArgs (top 30)) (defBody (top 30)) (defScope (top 30)) .none kV doc pm an cdv ct) ⟨us, []⟩ = pure (f8_law_at.ps.zip us) :=
  match us, hl with | [_, _], _ => rfl
theorem b_f28_law_is_whole (kV doc pm : Value) (an : Option Addr) (cdv ct : Value) (us : List Value) (hl : us.length = f28_law_is_whole.ps.length) : bindArgs (PySem.W.fnOf f28_law_is_whole.name f28_law_is_whole.name (defArgs (top 31)) (defBody (top 31)) (defScope (top 31)) .none kV doc pm an cdv ct) ⟨us, []⟩ = pure (f28_law_is_whole.ps.zip us) :=
  match us, hl with | [_], _ => rfl
theorem b_f100_law_small (kV doc pm : Value) (an : Option Addr) (cdv ct : Value) (us : List Value) (hl : us.length = f100_law_small.ps.length) : bindArgs (PySem.W.fnOf f100_law_small.name f100_law_small.name (defArgs (top 32)) (defBody (top 32)) (defScope (top 32)) .none kV doc pm an cdv ct) ⟨us, []⟩ = pure (f100_law_small.ps.zip us) :=
  match us, hl with | [_], _ => rfl
theorem b_f101_law_sums (kV doc pm : Value) (an : Option Addr) (cdv ct : Value) (us : List Value) (hl : us.length = f101_law_sums.ps.length) : bindArgs (PySem.W.fnOf f101_law_sums.name f101_law_sums.name (defArgs (top 33)) (defBody (top 33)) (defScope (top 33)) .none kV doc pm an cdv ct) ⟨us, []⟩ = pure (f101_law_sums.ps.zip us) :=
  match us, hl with | [_, _, _], _ => rfl
theorem b_f102_law_shows (kV doc pm : Value) (an : Option Addr) (cdv ct : Value) (us : List Value) (hl : us.length = f102_law_shows.ps.length) : bindArgs (PySem.W.fnOf f102_law_shows.name f102_law_shows.name (defArgs (top 34)) (defBody (top 34)) (defScope (top 34)) .none kV doc pm an cdv ct) ⟨us, []⟩ = pure (f102_law_shows.ps.zip us) :=
  match us, hl with | [_, _, _, _, _], _ => rfl
theorem b_f103_law (kV doc pm : Value) (an : Option Addr) (cdv ct : Value) (us : List Value) (hl : us.length = f103_law.ps.length) : bindArgs (PySem.W.fnOf f103_law.name f103_law.name (defArgs (top 35)) (defBody (top 35)) (defScope (top 35)) .none kV doc pm an cdv ct) ⟨us, []⟩ = pure (f103_law.ps.zip us) :=
  match us, hl with | [_], _ => rfl
def fa : List He.Fa := faOf G "law" ++ [He.Fa.int "MOST_PIECES" (24), He.Fa.int "GREATEST" (10000000000000000000000000000000000000000), He.Fa.int "MOST_PARTS" (4)]
def fn : List He.DefD := [defOf "is_integer" (top 7), defOf "is_short" (top 8), defOf "is_natural" (top 9), defOf "check_natural" (top 10), defOf "is_curve" (top 11), defOf "check_curve" (top 12), defOf "piece_at" (top 13), defOf "worth" (top 14), defOf "corners" (top 16), defOf "check_parts" (top 19), defOf "picked" (top 20), defOf "all_splits" (top 21), defOf "check_split" (top 22), defOf "best_split" (top 23), defOf "worst_split" (top 24), defOf "_law_source" (top 26), defOf "_law_draw" (top 27), defOf "_law_choice" (top 28), defOf "_law_equal" (top 29), defOf "_law_at" (top 30), defOf "_law_is_whole" (top 31), defOf "_law_small" (top 32), defOf "_law_sums" (top 33), defOf "_law_shows" (top 34), defOf "law" (top 35)]
def loose0 : List PySem.Str := ["PayError", "InvalidCurve", "InvalidNumber", "MOST_PIECES", "GREATEST", "is_integer", "is_short", "is_natural", "check_natural", "is_curve", "check_curve", "piece_at", "worth", "corners", "MOST_PARTS"]
def loose1 : List PySem.Str := ["check_parts", "picked", "all_splits", "check_split", "best_split", "worst_split", "_law_source", "_law_draw", "_law_choice", "_law_equal", "_law_at", "_law_is_whole", "_law_small", "_law_sums", "_law_shows"]
abbrev loose : List PySem.Str := loose0 ++ loose1
abbrev RwX : PySem.W.OpenRow := PySem.W.OpenLaw.row PySem.Challenge.rw_tierpay_k11_best_and_worst_splits
abbrev hk : PySem.W.Hook := He.hookD 4 fa fn
def ob (s : PySem.W.SharedT) : He.AlD := He.obsDG 4 fa fn (HandSHeadRun.getT s)
theorem ob_eq (s : PySem.W.SharedT) : ob s = hk.obs s.abs := He.obsDG_eq (HandSHeadRun.getT_eq s)
theorem runs (w : World) : HandSHeadRun.RunEq RwX (PySem.W.view RwX.prog [35]) hk ob 4000 loose w := by
  intro os
  kernel_rfl
theorem glo_in (g : Nat) (fd : FD) (h : (g, fd) ∈ G.fns) : He.Fa.glo fd.name ∈ fa := by
  unfold fa
  exact List.mem_append_left _ (List.mem_cons_of_mem _ (List.mem_append_left _ (List.mem_map.mpr ⟨(g, fd), h, rfl⟩)))
theorem free_in (x : Str) (h : x ∈ bltNames) : He.Fa.free x ∈ fa := by
  unfold fa
  exact List.mem_append_left _ (List.mem_cons_of_mem _ (List.mem_append_right _ (List.mem_map.mpr ⟨x, h, rfl⟩)))
theorem text_ok {K : PySem.W.Frag} {h : Heap} {mg : Str → Option Value} (X : K.In h) (N : h.Ns mainGlobals mg) (c : He.SaysD fa fn K) : TextOk G K mg where
  fns := fun g fd q => by
    have m := lookup_mem q
    have gi := glo_in g fd m
    have m' : (g, fd) ∈ [(1, f1_is_integer), (2, f2_is_short), (15, f15_is_natural), (16, f16_check_natural), (3, f3_is_curve), (17, f17_check_curve), (18, f18_piece_at), (19, f19_worth), (75, f75_corners), (94, f94_check_parts), (95, f95_picked), (96, f96_all_splits), (97, f97_check_split), (98, f98_best_split), (99, f99_worst_split), (4, f4_law_source), (5, f5_law_draw), (6, f6_law_choice), (7, f7_law_equal), (8, f8_law_at), (28, f28_law_is_whole), (100, f100_law_small), (101, f101_law_sums), (102, f102_law_shows)] := m
    simp only [List.mem_cons, List.not_mem_nil, or_false, Prod.mk.injEq] at m'
    rcases m' with ⟨rfl, rfl⟩ | ⟨rfl, rfl⟩ | ⟨rfl, rfl⟩ | ⟨rfl, rfl⟩ | ⟨rfl, rfl⟩ | ⟨rfl, rfl⟩ | ⟨rfl, rfl⟩ | ⟨rfl, rfl⟩ | ⟨rfl, rfl⟩ | ⟨rfl, rfl⟩ | ⟨rfl, rfl⟩ | ⟨rfl, rfl⟩ | ⟨rfl, rfl⟩ | ⟨rfl, rfl⟩ | ⟨rfl, rfl⟩ | ⟨rfl, rfl⟩ | ⟨rfl, rfl⟩ | ⟨rfl, rfl⟩ | ⟨rfl, rfl⟩ | ⟨rfl, rfl⟩ | ⟨rfl, rfl⟩ | ⟨rfl, rfl⟩ | ⟨rfl, rfl⟩ | ⟨rfl, rfl⟩
    · exact fn_fact X N c 0 rfl gi c_f1_is_integer b_f1_is_integer
    · exact fn_fact X N c 1 rfl gi c_f2_is_short b_f2_is_short
    · exact fn_fact X N c 2 rfl gi c_f15_is_natural b_f15_is_natural
    · exact fn_fact X N c 3 rfl gi c_f16_check_natural b_f16_check_natural
    · exact fn_fact X N c 4 rfl gi c_f3_is_curve b_f3_is_curve
    · exact fn_fact X N c 5 rfl gi c_f17_check_curve b_f17_check_curve
    · exact fn_fact X N c 6 rfl gi c_f18_piece_at b_f18_piece_at
    · exact fn_fact X N c 7 rfl gi c_f19_worth b_f19_worth
    · exact fn_fact X N c 8 rfl gi c_f75_corners b_f75_corners
    · exact fn_fact X N c 9 rfl gi c_f94_check_parts b_f94_check_parts
    · exact fn_fact X N c 10 rfl gi c_f95_picked b_f95_picked
    · exact fn_fact X N c 11 rfl gi c_f96_all_splits b_f96_all_splits
    · exact fn_fact X N c 12 rfl gi c_f97_check_split b_f97_check_split
    · exact fn_fact X N c 13 rfl gi c_f98_best_split b_f98_best_split
    · exact fn_fact X N c 14 rfl gi c_f99_worst_split b_f99_worst_split
    · exact fn_fact X N c 15 rfl gi c_f4_law_source b_f4_law_source
    · exact fn_fact X N c 16 rfl gi c_f5_law_draw b_f5_law_draw
    · exact fn_fact X N c 17 rfl gi c_f6_law_choice b_f6_law_choice
    · exact fn_fact X N c 18 rfl gi c_f7_law_equal b_f7_law_equal
    · exact fn_fact X N c 19 rfl gi c_f8_law_at b_f8_law_at
    · exact fn_fact X N c 20 rfl gi c_f28_law_is_whole b_f28_law_is_whole
    · exact fn_fact X N c 21 rfl gi c_f100_law_small b_f100_law_small
    · exact fn_fact X N c 22 rfl gi c_f101_law_sums b_f101_law_sums
    · exact fn_fact X N c 23 rfl gi c_f102_law_shows b_f102_law_shows
  gls := fun x d q => by
    have q : [(("MOST_PIECES" : Str), ((.int 24) : D)), (("GREATEST" : Str), ((.int 10000000000000000000000000000000000000000) : D)), (("MOST_PARTS" : Str), ((.int 4) : D))].lookup x = some d := q
    simp only [List.lookup_cons, List.lookup_nil] at q
    split at q
    · rename_i e; cases q; rw [eq_of_beq e]; exact gl_int X N c (by unfold fa; exact List.mem_append_right _ (List.mem_of_getElem? (i := 0) rfl))
    
    split at q
    · rename_i e; cases q; rw [eq_of_beq e]; exact gl_int X N c (by unfold fa; exact List.mem_append_right _ (List.mem_of_getElem? (i := 1) rfl))
    
    split at q
    · rename_i e; cases q; rw [eq_of_beq e]; exact gl_int X N c (by unfold fa; exact List.mem_append_right _ (List.mem_of_getElem? (i := 2) rfl))
    cases q
  blt := blt_of X N c free_in
/-- what the law's form gives -/
def lawRun (n : Nat) (ds : List D) : FRes := runB G.I (run G n) f103_law ds
theorem holds_of {n : Nat} (hr : Room (n + 1) callerA) (hrun : ∀ ns : List Int, ns.length ≤ 63 → ∃ out, lawRun n [.list (ns.map .int)] = .ok (.bool true) out) : PySem.Challenge.rw_tierpay_k11_best_and_worst_splits.Holds := by
  w_on; o_law
  refine HandSHeadRun.head_any (r := PySem.W.OpenLaw.row PySem.Challenge.rw_tierpay_k11_best_and_worst_splits) (q := PySem.W.view (PySem.W.OpenLaw.row PySem.Challenge.rw_tierpay_k11_best_and_worst_splits).prog [35]) (H := hk) (ob := ob) (M := 4000) (loose := loose) (d := HandSHeadRun.topDef (PySem.W.OpenLaw.row PySem.Challenge.rw_tierpay_k11_best_and_worst_splits).prog 35) (kwd := []) ob_eq
    (by kernel_rfl) (fun s => by kernel_rfl) runs (by kernel_rfl) (by kernel_rfl) (by kernel_rfl) (by rfl) (by first | assumption | decide +kernel) (by decide +kernel) ⟨rfl, rfl, rfl, rfl, rfl, by decide +kernel⟩ ?hw ?hc
  case hw => w_witness2
  case hc =>
    refine walk_T (l := PySem.Challenge.rw_tierpay_k11_best_and_worst_splits) (n := 63) (k := n + 1) (x := "script") (CX := CX0) rfl (by decide) (by kernel_rfl) hr ?F (fun _ _ _ _ z => z)
    intro w mg fa' h Y N hmg0
    obtain ⟨K, X, c⟩ := Y
    have hmg : mg ("law" : Str) = some (.ref fa') := by
      have e : (HandSHeadRun.topDef (PySem.W.OpenLaw.row PySem.Challenge.rw_tierpay_k11_best_and_worst_splits).prog 35).name = ("law" : PySem.Str) := by kernel_rfl
      rw [← e]
      exact hmg0
    obtain ⟨fdt, F⟩ := c.def_ 24 (d := defOf "law" (top 35)) rfl
    have F : FunD K "law" "law" (defArgs (top 35)) (defBody (top 35)) (defScope (top 35)) [] [] (He.fAd K ("law", none)) fdt := F
    have e := hmg.symm.trans (He.glo_ok X N (c.fact 0 (f := .glo "law") rfl))
    have e := Value.ref.inj (Option.some.inj e)
    subst e
    have ck := c_f103_law
    unfold chk at ck
    rw [Bool.and_eq_true] at ck
    have tx := text_ok X N c
    refine ⟨K, fdt, fun vs H Q E => (∀ c d H, ¬ E c d H) ∧ spOf ⟨fun _ => none, fun _ => none⟩ K none false (lawRun n) vs H Q E, X, fun s u => F.bindsA (ps := ["script"]) b_f103_law s [u] rfl, fun H a ns hl hS => law_sp hS (hrun ns hl), fun base _ _ => law_ok (fd := f103_law) tx F (scB_ok ck.1) ck.2⟩
theorem law_of (h : ∀ ns : List Int, ns.length ≤ 63 → t103_law ns = .ok true) : PySem.Challenge.rw_tierpay_k11_best_and_worst_splits.Holds := by
  refine holds_of (n := 9) ⟨rfl, by decide, by decide⟩ fun ns hl => ⟨.none, ?_⟩
  have e := s_law (H := G) (n := 0) ns
  rw [h ns hl] at e
  unfold Sim eL at e
  simp only [Nat.zero_add] at e
  unfold lawRun
  exact e
end Tp
theorem PySem.Challenge.cw_tierpay_k11_best_and_worst_splits_holds : PySem.Challenge.rw_tierpay_k11_best_and_worst_splits.Holds := by
  exact Tp.law_of Tp.law11
