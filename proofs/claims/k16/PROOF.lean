import PyProof.Rows.All
import HandS.ForMost
import HandS.ForExc
import HandS.Deep
import HandS.Walk
import HandS.Wide
import HandS.IsInst
import HandS.TupAny
import HandS.TupLe
import HandS.Text
import HandS.Style
import HandS.Zip
import HandS.SetFor
import HandS.Strs
import HandS.SortInts
import HandS.Defaults
import HandS.HeadEnd
import HandS.HeadHook1
import HandS.HeadHook2
import HandS.Head0
import HandS.Head1
import HandS.Head2
import PySem.Challenge.RW_tierpay_k16_rows_of_what_is_paid
set_option Elab.async false
set_option linter.all false
set_option maxRecDepth 100000
set_option maxHeartbeats 0
/-! Tp1: data over an abstract heap, environments of slots, what an evaluation's outcome promises. -/
namespace Tp
open PySem PySem.Spec PyProof.Rows L2
abbrev D := PyData
abbrev Fg := PySem.W.Frag
/-- G is a part of H -/
def LeG (G H : Hp) : Prop := ∀ a o, G a = some o → H a = some o
theorem LeG.refl {G : Hp} : LeG G G := fun _ _ h => h
theorem LeG.trans {A B C : Hp} (h : LeG A B) (k : LeG B C) : LeG A C := fun a o q => k a o (h a o q)
theorem Rd.le {G H : Hp} (h : LeG G H) {a : Addr} {u : HO} (r : Rd G a u) : Rd H a u := by
  rcases r with r | ⟨o, r⟩
  · exact .inl (h _ _ r)
  · exact .inr ⟨o, h _ _ r⟩
theorem SqL.le {K : Fg} {G H : Hp} (h : LeG G H) {a : Addr} {xs : List V} (r : SqL K G a xs) : SqL K H a xs := by
  rcases r with r | r
  · exact .inl (Rd.le h r)
  · exact .inr r
theorem SqT.le {K : Fg} {G H : Hp} (h : LeG G H) {a : Addr} {xs : List V} (r : SqT K G a xs) : SqT K H a xs := by
  rcases r with r | r
  · exact .inl (Rd.le h r)
  · exact .inr r
/-- a list, in the heap or the text's own, nothing else in its object -/
def LsK (K : Fg) (H : Hp) (a : Addr) (xs : List V) : Prop := Rd H a (.lst xs) ∨ ∃ (its : List Value) (n : Nat), K.lookup a = some { cls := .type "list", data := .seq its.toArray n } ∧ xs.length ≤ sizeLine ∧ Vals xs its
theorem LsK.sq {K : Fg} {H : Hp} {a : Addr} {xs : List V} (h : LsK K H a xs) : SqL K H a xs := by
  rcases h with h | ⟨its, n, e, z, r⟩
  · exact .inl h
  · exact .inr ⟨_, its.toArray, n, e, rfl, rfl, rfl, by rw [List.size_toArray, ← r.length]; exact z, r⟩
theorem LsK.le {K : Fg} {G H : Hp} (h : LeG G H) {a : Addr} {xs : List V} (r : LsK K G a xs) : LsK K H a xs := by
  rcases r with r | r
  · exact .inl (Rd.le h r)
  · exact .inr r
/-- a key as data -/
def keyD : Key → D
  | .inl i => .int i
  | .inr x => .str x
/-- an instance as data: the mark, the number of its class, its attributes -/
def instD (c : Int) (fs : List (Str × D)) : D := .dict ((.none, .int c) :: fs.map fun p => (.str p.1, p.2))
mutual
/-- the value stands for the data, by the part G of the heap -/
inductive RD (K : Fg) (G : Hp) : D → V → Prop
  | non : RD K G .none .non
  | bl (b : Bool) : RD K G (.bool b) (.bl b)
  | int (i : Int) : RD K G (.int i) (.int i)
  | str (x : Str) : RD K G (.str x) (.str x)
  | lst {a : Addr} {xs : List V} {ds : List D} : LsK K G a xs → RDs K G ds xs → RD K G (.list ds) (.ref a)
  | tup {a : Addr} {xs : List V} {ds : List D} : SqT K G a xs → RDs K G ds xs → RD K G (.tuple ds) (.ref a)
  | dK {a : Addr} {ks : List Key} {xs : List V} {ds : List D} : Rd G a (.dK (ks.zip xs)) → ks.length = xs.length → RDs K G ds xs → RD K G (.dict ((ks.map keyD).zip ds)) (.ref a)
  | dT {a : Addr} {ks : List (List Key)} {xs : List V} {ds : List D} : Rd G a (.dT (ks.zip xs)) → ks.length = xs.length → RDs K G ds xs → RD K G (.dict ((ks.map fun k => PyData.tuple (k.map keyD)).zip ds)) (.ref a)
  | ins {a C dx : Addr} {ns : List Str} {xs : List V} {ds : List D} {c : Int} : G a = some (.ins C dx (ns.zip xs)) → ns.length = xs.length → RDs K G ds xs → (C : Int) = c → RD K G (instD c (ns.zip ds)) (.ref a)
inductive RDs (K : Fg) (G : Hp) : List D → List V → Prop
  | nil : RDs K G [] []
  | cons {d : D} {v : V} {ds : List D} {vs : List V} : RD K G d v → RDs K G ds vs → RDs K G (d :: ds) (v :: vs)
end
mutual
theorem RD.le {K : Fg} {G H : Hp} (h : LeG G H) : ∀ {d : D} {v : V}, RD K G d v → RD K H d v
  | _, _, .non => .non
  | _, _, .bl b => .bl b
  | _, _, .int i => .int i
  | _, _, .str x => .str x
  | _, _, .lst s r => .lst (LsK.le h s) (RDs.le h r)
  | _, _, .tup s r => .tup (SqT.le h s) (RDs.le h r)
  | _, _, .dK s n r => .dK (Rd.le h s) n (RDs.le h r)
  | _, _, .dT s n r => .dT (Rd.le h s) n (RDs.le h r)
  | _, _, .ins s n r c => .ins (h _ _ s) n (RDs.le h r) c
theorem RDs.le {K : Fg} {G H : Hp} (h : LeG G H) : ∀ {ds : List D} {vs : List V}, RDs K G ds vs → RDs K H ds vs
  | _, _, .nil => .nil
  | _, _, .cons a b => .cons (RD.le h a) (RDs.le h b)
end
theorem RDs.length {K : Fg} {G : Hp} : ∀ {ds : List D} {vs : List V}, RDs K G ds vs → ds.length = vs.length
  | _, _, .nil => rfl
  | _, _, .cons _ b => congrArg (· + 1) (RDs.length b)
theorem RDs.app {K : Fg} {G : Hp} : ∀ {ds es : List D} {vs us : List V}, RDs K G ds vs → RDs K G es us → RDs K G (ds ++ es) (vs ++ us)
  | _, _, _, _, .nil, s => s
  | _, _, _, _, .cons a b, s => .cons a (RDs.app b s)
theorem RDs.get {K : Fg} {G : Hp} : ∀ {ds : List D} {vs : List V} {i : Nat} {d : D}, RDs K G ds vs → ds[i]? = some d → ∃ v, vs[i]? = some v ∧ RD K G d v
  | _, _, 0, _, .cons a _, e => by
    simp only [List.getElem?_cons_zero, Option.some.injEq] at e
    subst e
    exact ⟨_, rfl, a⟩
  | _, _, i + 1, _, .cons _ b, e => by
    obtain ⟨v, h1, h2⟩ := RDs.get (i := i) b (by simpa using e)
    exact ⟨v, by simpa using h1, h2⟩
theorem RDs.getV {K : Fg} {G : Hp} : ∀ {ds : List D} {vs : List V} {i : Nat} {v : V}, RDs K G ds vs → vs[i]? = some v → ∃ d, ds[i]? = some d ∧ RD K G d v
  | _, _, 0, _, .cons a _, e => by
    simp only [List.getElem?_cons_zero, Option.some.injEq] at e
    subst e
    exact ⟨_, rfl, a⟩
  | _, _, i + 1, _, .cons _ b, e => by
    obtain ⟨v, h1, h2⟩ := RDs.getV (i := i) b (by simpa using e)
    exact ⟨v, by simpa using h1, h2⟩
theorem RDs.take {K : Fg} {G : Hp} : ∀ {ds : List D} {vs : List V} (n : Nat), RDs K G ds vs → RDs K G (ds.take n) (vs.take n)
  | _, _, 0, _ => .nil
  | _, _, _ + 1, .nil => .nil
  | _, _, n + 1, .cons a b => .cons a (RDs.take n b)
theorem RDs.drop {K : Fg} {G : Hp} : ∀ {ds : List D} {vs : List V} (n : Nat), RDs K G ds vs → RDs K G (ds.drop n) (vs.drop n)
  | _, _, 0, r => r
  | _, _, _ + 1, .nil => .nil
  | _, _, n + 1, .cons _ b => RDs.drop n b
theorem RDs.rev {K : Fg} {G : Hp} : ∀ {ds : List D} {vs : List V}, RDs K G ds vs → RDs K G ds.reverse vs.reverse
  | _, _, .nil => .nil
  | _, _, .cons a b => by
    rw [List.reverse_cons, List.reverse_cons]
    exact RDs.app (RDs.rev b) (.cons a .nil)
theorem RDs.setAt {K : Fg} {G : Hp} {d : D} {v : V} (h : RD K G d v) : ∀ {ds : List D} {vs : List V} (n : Nat), RDs K G ds vs → RDs K G (ds.set n d) (vs.set n v)
  | _, _, _, .nil => .nil
  | _, _, 0, .cons _ b => .cons h b
  | _, _, n + 1, .cons a b => .cons a (RDs.setAt h n b)
/-- a slot: nothing known; a value that stands for data; an object of this frame's own (a list, a dict) that nothing else holds; the same, handed in by the caller -/
inductive Slot where
  | no | val (d : D) | own (d : D) | io (d : D)
abbrev Env := List Slot
inductive Res (α : Type) where
  | ok (a : α) (e : Env)
  | exc (c : Nat) (x : D) (e : Env)
  | stuck
/-- an object that may change: at a, not in G -/
def OwnAt (K : Fg) (G H : Hp) (a : Addr) : D → Prop
  | .list ds => G a = none ∧ ∃ vs, H a = some (.lst vs) ∧ RDs K G ds vs
  | .dict kvs => G a = none ∧ ((∃ (ks : List Key) (vs : List V) (ds : List D), H a = some (.dK (ks.zip vs)) ∧ ks.length = vs.length ∧ RDs K G ds vs ∧ kvs = (ks.map keyD).zip ds) ∨
      ∃ (ks : List (List Key)) (vs : List V) (ds : List D), H a = some (.dT (ks.zip vs)) ∧ ks.length = vs.length ∧ RDs K G ds vs ∧ kvs = (ks.map fun k => PyData.tuple (k.map keyD)).zip ds)
  | _ => False
theorem OwnAt.free {K : Fg} {G H : Hp} {a : Addr} {d : D} (h : OwnAt K G H a d) : G a = none := by
  cases d <;> first | exact h.1 | exact h.elim
theorem OwnAt.there {K : Fg} {G H : Hp} {a : Addr} {d : D} (h : OwnAt K G H a d) : ∃ o, H a = some o := by
  cases d with
  | list ds => obtain ⟨_, vs, h, _⟩ := h; exact ⟨_, h⟩
  | dict kvs => obtain ⟨_, ⟨_, _, _, h, _⟩ | ⟨_, _, _, h, _⟩⟩ := h <;> exact ⟨_, h⟩
  | _ => exact h.elim
theorem OwnAt.mono {K : Fg} {G H G' H' : Hp} {a : Addr} {d : D} (h : OwnAt K G H a d) (le : LeG G G') (hf : G' a = none) (hk : ∀ o, H a = some o → H' a = some o) : OwnAt K G' H' a d := by
  cases d with
  | list ds => obtain ⟨_, vs, h, r⟩ := h; exact ⟨hf, vs, hk _ h, r.le le⟩
  | dict kvs =>
    obtain ⟨_, ⟨ks, vs, ds, h, n, r, e⟩ | ⟨ks, vs, ds, h, n, r, e⟩⟩ := h
    · exact ⟨hf, .inl ⟨ks, vs, ds, hk _ h, n, r.le le, e⟩⟩
    · exact ⟨hf, .inr ⟨ks, vs, ds, hk _ h, n, r.le le, e⟩⟩
  | _ => exact h.elim
/-- what is fixed while a def runs: the entry, the objects handed in to be changed (slot, address), the objects in the making, the wish about exceptions -/
structure Frm where
  H0 : Hp
  G0 : Hp
  ios : List (Nat × Addr)
  R : List (Addr × HO)
  W : WX
abbrev Frm.O (F : Frm) : List Addr := F.ios.map (·.2)
def Slot.mine? : Slot → Option D
  | .own d => some d
  | .io d => some d
  | _ => none
structure SR (K : Fg) (F : Frm) (σ : L2.St) (H : Hp) (e : Env) (G : Hp) : Prop where
  le : LeG G H
  len : e.length = σ.length
  vals : ∀ (i : Nat) (d : D), e[i]? = some (.val d) → ∃ v, σ[i]? = some (some v) ∧ RD K G d v
  owns : ∀ (i : Nat) (d : D), e[i]? = some (.own d) → ∃ a, σ[i]? = some (some (.ref a)) ∧ OwnAt K G H a d ∧ F.H0 a = none ∧ ∀ p ∈ F.R, p.1 ≠ a
  iosl : ∀ (i : Nat) (d : D), e[i]? = some (.io d) → ∃ a, (i, a) ∈ F.ios ∧ OwnAt K G H a d ∧ ∀ p ∈ F.R, p.1 ≠ a
  iosv : ∀ p ∈ F.ios, σ[p.1]? = some (some (.ref p.2)) ∧ ∃ d, e[p.1]? = some (.io d)
  dist : ∀ (i j : Nat) (d d' : D) (a : Addr), i ≠ j → e[i]?.bind Slot.mine? = some d → e[j]?.bind Slot.mine? = some d' → σ[i]? = some (some (.ref a)) → σ[j]? = some (some (.ref a)) → False
  keep : ∀ b o, b ∉ F.O → F.H0 b = some o → H b = some o
  gk : LeG F.G0 G
  fresh : ∀ b o, G b = some o → F.G0 b = some o ∨ F.H0 b = none
  res : ∀ p ∈ F.R, H p.1 = some p.2 ∧ G p.1 = none ∧ F.H0 p.1 = none
/-- an exception of the law's own classes: the class by its number, the attribute -/
structure ExcT where
  /-- where the classes stand -/
  at_ : Nat → Option Addr
  /-- the attribute's name, of the classes that have one -/
  attr : Nat → Option Str
def ExcOk (T : ExcT) (K : Fg) (G H : Hp) (c : Nat) (x : D) (cls : Value) (dd : Option Addr) : Prop :=
  ∃ C, T.at_ c = some C ∧ cls = .ref C ∧
    match T.attr c with
    | none => dd = none
    | some n => ∃ d0 v, dd = some d0 ∧ H d0 = some (.xd [(n, v)]) ∧ RD K G x v
section
variable (T : ExcT) (K : Fg) (F : Frm) (σ : L2.St)
/-- what an outcome promises -/
def Aft {α β : Type} (rel : Hp → α → β → Prop) (G : Hp) (r : Res α) (Q : β → Hp → Prop) : Prop :=
  match r with
  | .ok a e => ∀ v H' G', SR K F σ H' e G' → LeG G G' → rel G' a v → Q v H'
  | .exc c x e => ∀ cls dd H' G', SR K F σ H' e G' → LeG G G' → ExcOk T K G' H' c x cls dd → F.W cls dd σ H'
  | .stuck => False
end
abbrev M (α : Type) := Env → Res α
def M.pure {α : Type} (a : α) : M α := fun e => .ok a e
def M.bind {α β : Type} (m : M α) (k : α → M β) : M β := fun e =>
  match m e with
  | .ok a e' => k a e'
  | .exc c x e' => .exc c x e'
  | .stuck => .stuck
def M.stuck {α : Type} : M α := fun _ => .stuck
/-- where the data is known -/
def M.of {α : Type} : Option α → M α
  | some a => M.pure a
  | none => M.stuck
@[simp] theorem M.pure_ap {α : Type} (a : α) (e : Env) : M.pure a e = .ok a e := rfl
@[simp] theorem M.stuck_ap {α : Type} (e : Env) : (M.stuck : M α) e = .stuck := rfl
@[simp] theorem M.of_some {α : Type} (a : α) : M.of (some a) = M.pure a := rfl
@[simp] theorem M.of_none {α : Type} : M.of (none : Option α) = M.stuck := rfl
theorem M.bind_ok {α β : Type} {m : M α} {k : α → M β} {e e' : Env} {a : α} (h : m e = .ok a e') : M.bind m k e = k a e' := by unfold M.bind; rw [h]
section
variable {T : ExcT} {K : Fg} {F : Frm} {σ : L2.St} {H G G' : Hp} {e : Env}
theorem Aft.weak {α β : Type} {rel : Hp → α → β → Prop} {r : Res α} {Q : β → Hp → Prop} (h : Aft T K F σ rel G r Q) (le : LeG G G') : Aft T K F σ rel G' r Q := by
  cases r with
  | ok a e => exact fun v H1 G1 s l r => h v H1 G1 s (le.trans l) r
  | exc c x e => exact fun cls dd H1 G1 s l r => h cls dd H1 G1 s (le.trans l) r
  | stuck => exact h.elim
theorem Aft.mono {α β : Type} {rel : Hp → α → β → Prop} {r : Res α} {Q Q' : β → Hp → Prop} (h : Aft T K F σ rel G r Q) (hq : ∀ v H, Q v H → Q' v H) : Aft T K F σ rel G r Q' := by
  cases r with
  | ok a e => exact fun v H1 G1 s l r => hq _ _ (h v H1 G1 s l r)
  | exc c x e => exact fun cls dd H1 G1 s l r => h cls dd H1 G1 s l r
  | stuck => exact h.elim
/-- THE STEP: the outcome of m, then k -/
theorem Aft.bind {α β γ δ : Type} {rel : Hp → α → β → Prop} {rel' : Hp → γ → δ → Prop} {m : M α} {k : α → M γ} {Q : δ → Hp → Prop} (h : Aft T K F σ rel' G (M.bind m k e) Q) :
    Aft T K F σ rel G (m e) (fun v H1 => ∃ a e1 G1, SR K F σ H1 e1 G1 ∧ LeG G G1 ∧ rel G1 a v ∧ Aft T K F σ rel' G1 (k a e1) Q) := by
  unfold M.bind at h
  cases hm : m e with
  | ok a e1 =>
    rw [hm] at h
    exact fun v H1 G1 s l r => ⟨a, e1, G1, s, l, r, h.weak l⟩
  | exc c x e1 =>
    rw [hm] at h
    exact h
  | stuck =>
    rw [hm] at h
    exact h.elim
end
end Tp
/-! Tp2: the judgements by outcomes, operands, operations on values. -/
namespace Tp
open PySem PySem.Spec PyProof.Rows L2
/-- an operand: a value, or a name whose object is this frame's own -/
abbrev Opd := Sum D Nat
def rE (K : Fg) : L2.St → Hp → D → V → Prop := fun _ G d v => RD K G d v
def rT : L2.St → Hp → Bool → Bool → Prop := fun _ _ b v => b = v
def rO (K : Fg) : L2.St → Hp → Opd → V → Prop := fun σ G o v => match o with | .inl d => RD K G d v | .inr i => σ[i]? = some (some v)
inductive ROs (K : Fg) (σ : L2.St) (G : Hp) : List Opd → List V → Prop
  | nil : ROs K σ G [] []
  | cons {o : Opd} {v : V} {os : List Opd} {vs : List V} : rO K σ G o v → ROs K σ G os vs → ROs K σ G (o :: os) (v :: vs)
theorem rO.le {K : Fg} {σ : L2.St} {G G' : Hp} (l : LeG G G') {o : Opd} {v : V} (h : rO K σ G o v) : rO K σ G' o v := by
  cases o with
  | inl d => exact RD.le l (show RD K G d v from h)
  | inr i => exact h
theorem ROs.le {K : Fg} {σ : L2.St} {G G' : Hp} (l : LeG G G') : ∀ {os : List Opd} {vs : List V}, ROs K σ G os vs → ROs K σ G' os vs
  | _, _, .nil => .nil
  | _, _, .cons a b => .cons (rO.le l a) (ROs.le l b)
def tX (T : ExcT) (K : Fg) (F : Frm) {α β : Type} (rel : L2.St → Hp → α → β → Prop) (m : M α) : L2.St → Hp → (β → Hp → Prop) → Prop := fun σ H Q =>
  ∃ e G, SR K F σ H e G ∧ Aft T K F σ (rel σ) G (m e) Q
/-- an expression does what m says -/
def SE (T : ExcT) (X : Cx) (ex : Expr) (m : M D) : Prop := ∀ F : Frm, Takes X F.W → PE X ex (tX T X.K F (rE X.K) m)
def SO (T : ExcT) (X : Cx) (ex : Expr) (m : M Opd) : Prop := ∀ F : Frm, Takes X F.W → PE X ex (tX T X.K F (rO X.K) m)
def SB (T : ExcT) (X : Cx) (ex : Expr) (m : M Bool) : Prop := ∀ F : Frm, Takes X F.W → PT X ex (tX T X.K F rT m)
def SBW (T : ExcT) (X : Cx) (ex : Expr) (m : M Bool) : Prop := ∀ F : Frm, Takes X F.W → PW X ex (tX T X.K F rT m)
def SA (T : ExcT) (X : Cx) (es : List Expr) (m : M (List Opd)) : Prop := ∀ F : Frm, Takes X F.W → PA X es (tX T X.K F (ROs X.K) m)
/-- weakening of a rule's own reading -/
theorem PE.weak {X : Cx} {e : Expr} {t t' : TE} (h : PE X e t) (w : ∀ σ H Q, t' σ H Q → t σ H Q) : PE X e t' := ⟨fun pins s σ H Q I q => h.run pins s σ H Q I (w σ H Q q)⟩
theorem PT.weak {X : Cx} {e : Expr} {t t' : TT} (h : PT X e t) (w : ∀ σ H Q, t' σ H Q → t σ H Q) : PT X e t' := ⟨fun pins s σ H Q I q => h.run pins s σ H Q I (w σ H Q q)⟩
theorem PW.weak {X : Cx} {e : Expr} {t t' : TT} (h : PW X e t) (w : ∀ σ H Q, t' σ H Q → t σ H Q) : PW X e t' := ⟨fun wh pins s σ H Q I q => h.run wh pins s σ H Q I (w σ H Q q)⟩
theorem PA.weak {X : Cx} {e : List Expr} {t t' : TA} (h : PA X e t) (w : ∀ σ H Q, t' σ H Q → t σ H Q) : PA X e t' := ⟨fun pos pins s σ H Q I q => h.run pos pins s σ H Q I (w σ H Q q)⟩
theorem PS.weak {X : Cx} {e : Stmt} {t t' : TS} (h : PS X e t) (w : ∀ D σ H, t' D σ H → t D σ H) : PS X e t' := ⟨fun pins s σ H D I q => h.run pins s σ H D I (w D σ H q)⟩
theorem PSs.weak {X : Cx} {e : List Stmt} {t t' : TS} (h : PSs X e t) (w : ∀ D σ H, t' D σ H → t D σ H) : PSs X e t' := ⟨fun pins s σ H D I q => h.run pins s σ H D I (w D σ H q)⟩
/-- the heap has grown by new objects, some of them known -/
structure Grow (G H G' H' : Hp) : Prop where
  h : LeG H H'
  g : LeG G G'
  le : LeG G' H'
  new : ∀ b o, G' b = some o → G b = some o ∨ H b = none
theorem Grow.refl {G H : Hp} (l : LeG G H) : Grow G H G H := ⟨LeG.refl, LeG.refl, l, fun _ _ h => .inl h⟩
theorem Grow.trans {G H G1 H1 G2 H2 : Hp} (a : Grow G H G1 H1) (b : Grow G1 H1 G2 H2) : Grow G H G2 H2 := by
  refine ⟨a.h.trans b.h, a.g.trans b.g, b.le, fun c o h => ?_⟩
  rcases b.new c o h with q | q
  · exact a.new c o q
  · refine .inr ?_
    cases e : H c with
    | none => rfl
    | some u => rw [a.h c u e] at q; cases q
/-- one new object -/
theorem Grow.one {G H : Hp} (l : LeG G H) {p : Addr} (np : H p = none) (o : HO) : Grow G H (upd G p o) (upd H p o) := by
  have gp : G p = none := by
    cases e : G p with
    | none => rfl
    | some u => rw [l p u e] at np; cases np
  refine ⟨fun b u e => ?_, fun b u e => ?_, fun b u e => ?_, fun b u e => ?_⟩
  · rw [upd_ne (ne_of_none e np)]; exact e
  · rw [upd_ne (ne_of_none e gp)]; exact e
  · by_cases hb : b = p
    · subst hb; rw [upd_same] at e ⊢; exact e
    · rw [upd_ne hb] at e ⊢; exact l b u e
  · by_cases hb : b = p
    · subst hb; exact .inr np
    · rw [upd_ne hb] at e; exact .inl e
/-- a new object that is not known -/
theorem Grow.hid {G H : Hp} (l : LeG G H) {p : Addr} (np : H p = none) (o : HO) : Grow G H G (upd H p o) := by
  refine ⟨fun b u e => ?_, LeG.refl, fun b u e => ?_, fun b u e => .inl e⟩
  · rw [upd_ne (ne_of_none e np)]; exact e
  · rw [upd_ne (ne_of_none (l b u e) np)]; exact l b u e
section
variable {K : Fg} {F : Frm} {σ : L2.St} {H H' G G' : Hp} {e : Env}
theorem SR.mine (s : SR K F σ H e G) {i : Nat} {d : D} (h : e[i]?.bind Slot.mine? = some d) : ∃ a, σ[i]? = some (some (.ref a)) ∧ OwnAt K G H a d ∧ (∀ p ∈ F.R, p.1 ≠ a) ∧ (F.H0 a = none ∨ (i, a) ∈ F.ios) := by
  cases q : e[i]? with
  | none => rw [q] at h; simp at h
  | some sl =>
    rw [q] at h
    cases sl with
    | no => simp [Slot.mine?] at h
    | val d' => simp [Slot.mine?] at h
    | own d' =>
      have z : d' = d := by simpa [Slot.mine?] using h
      subst z
      obtain ⟨a, h1, h2, h3, h4⟩ := s.owns i d' q
      exact ⟨a, h1, h2, h4, .inl h3⟩
    | io d' =>
      have z : d' = d := by simpa [Slot.mine?] using h
      subst z
      obtain ⟨a, h1, h2, h4⟩ := s.iosl i d' q
      exact ⟨a, (s.iosv _ h1).1, h2, h4, .inr h1⟩
theorem SR.grow (s : SR K F σ H e G) (w : Grow G H G' H') : SR K F σ H' e G' := by
  have fr : ∀ {a : Addr} {d : D}, OwnAt K G H a d → OwnAt K G' H' a d := fun {a d} o => by
    refine o.mono w.g ?_ (fun u q => w.h a u q)
    cases q : G' a with
    | none => rfl
    | some u =>
      rcases w.new a u q with z | z
      · rw [o.free] at z; cases z
      · obtain ⟨v, hv⟩ := o.there
        rw [hv] at z; cases z
  refine ⟨w.le, s.len, fun i d h => ?_, fun i d h => ?_, fun i d h => ?_, s.iosv, s.dist, fun b o hb h => w.h b o (s.keep b o hb h), s.gk.trans w.g, fun b o h => ?_, fun p hp => ?_⟩
  · obtain ⟨v, h1, h2⟩ := s.vals i d h
    exact ⟨v, h1, h2.le w.g⟩
  · obtain ⟨a, h1, h2, h3, h4⟩ := s.owns i d h
    exact ⟨a, h1, fr h2, h3, h4⟩
  · obtain ⟨a, h1, h2, h4⟩ := s.iosl i d h
    exact ⟨a, h1, fr h2, h4⟩
  · rcases w.new b o h with q | q
    · exact s.fresh b o q
    · refine .inr ?_
      cases z : F.H0 b with
      | none => rfl
      | some u =>
        by_cases hb : b ∈ F.O
        · obtain ⟨p, hp, rfl⟩ := List.mem_map.mp hb
          obtain ⟨h1, d, h2⟩ := s.iosv p hp
          obtain ⟨a, h3, h4, _⟩ := s.iosl p.1 d h2
          have h5 := (s.iosv _ h3).1
          rw [h1] at h5
          have h6 : p.2 = a := by
            injection h5 with h5
            injection h5 with h5
            injection h5
          obtain ⟨v, hv⟩ := h4.there
          rw [← h6, q] at hv
          cases hv
        · rw [s.keep b u hb z] at q; cases q
  · obtain ⟨h1, h2, h3⟩ := s.res p hp
    refine ⟨w.h _ _ h1, ?_, h3⟩
    cases q : G' p.1 with
    | none => rfl
    | some u =>
      rcases w.new p.1 u q with z | z
      · rw [h2] at z; cases z
      · rw [h1] at z; cases z
end
/-- readable: known, or an object of one's own -/
def RB (K : Fg) (G H : Hp) (d : D) (v : V) : Prop := RD K G d v ∨ ∃ a, v = .ref a ∧ OwnAt K G H a d
inductive RBs (K : Fg) (G H : Hp) : List D → List V → Prop
  | nil : RBs K G H [] []
  | cons {d : D} {v : V} {ds : List D} {vs : List V} : RB K G H d v → RBs K G H ds vs → RBs K G H (d :: ds) (v :: vs)
theorem RB.list {K : Fg} {G H : Hp} {ds : List D} {v : V} (l : LeG G H) (h : RB K G H (.list ds) v) : ∃ a vs, v = .ref a ∧ LsK K H a vs ∧ RDs K G ds vs := by
  rcases h with h | ⟨a, rfl, _, vs, h, r⟩
  · cases h with
    | lst s r => exact ⟨_, _, rfl, LsK.le l s, r⟩
  · exact ⟨a, vs, rfl, .inl (.inl h), r⟩
theorem RB.tuple {K : Fg} {G H : Hp} {ds : List D} {v : V} (l : LeG G H) (h : RB K G H (.tuple ds) v) : ∃ a vs, v = .ref a ∧ SqT K H a vs ∧ RDs K G ds vs ∧ RD K G (.tuple ds) v := by
  rcases h with h | ⟨a, rfl, h⟩
  · cases h with
    | tup s r => exact ⟨_, _, rfl, SqT.le l s, r, .tup s r⟩
  · exact h.elim
theorem RB.int {K : Fg} {G H : Hp} {i : Int} {v : V} (h : RB K G H (.int i) v) : v = .int i := by
  rcases h with h | ⟨a, rfl, h⟩
  · cases h; rfl
  · exact h.elim
theorem RB.str {K : Fg} {G H : Hp} {i : Str} {v : V} (h : RB K G H (.str i) v) : v = .str i := by
  rcases h with h | ⟨a, rfl, h⟩
  · cases h; rfl
  · exact h.elim
theorem RB.bool {K : Fg} {G H : Hp} {i : Bool} {v : V} (h : RB K G H (.bool i) v) : v = .bl i := by
  rcases h with h | ⟨a, rfl, h⟩
  · cases h; rfl
  · exact h.elim
theorem RB.none {K : Fg} {G H : Hp} {v : V} (h : RB K G H .none v) : v = .non := by
  rcases h with h | ⟨a, rfl, h⟩
  · cases h; rfl
  · exact h.elim
theorem RD.int' {K : Fg} {G : Hp} {i : Int} {v : V} (h : RD K G (.int i) v) : v = .int i := by cases h; rfl
theorem RD.bool' {K : Fg} {G : Hp} {i : Bool} {v : V} (h : RD K G (.bool i) v) : v = .bl i := by cases h; rfl
/-- the data of an operand, now -/
def resolve (o : Opd) (e : Env) : Option D :=
  match o with
  | .inl d => some d
  | .inr i => e[i]?.bind Slot.mine?
def resolves : List Opd → Env → Option (List D)
  | [], _ => some []
  | o :: os, e => (resolve o e).bind fun d => (resolves os e).map fun ds => d :: ds
theorem SR.rb {K : Fg} {F : Frm} {σ : L2.St} {H G : Hp} {e : Env} (s : SR K F σ H e G) {o : Opd} {v : V} {d : D} (r : rO K σ G o v) (h : resolve o e = some d) : RB K G H d v := by
  cases o with
  | inl d' =>
    have z : d' = d := Option.some.inj h
    subst z
    exact .inl r
  | inr i =>
    obtain ⟨a, h1, h2, _⟩ := s.mine (i := i) (d := d) h
    have r' : σ[i]? = some (some v) := r
    rw [h1] at r'
    have z : V.ref a = v := by
      injection r' with r'
      injection r' with r'
    exact .inr ⟨a, z.symm, h2⟩
theorem SR.rbs {K : Fg} {F : Frm} {σ : L2.St} {H G : Hp} {e : Env} (s : SR K F σ H e G) : ∀ {os : List Opd} {vs : List V} {ds : List D}, ROs K σ G os vs → resolves os e = some ds → RBs K G H ds vs
  | _, _, _, .nil, h => by
    cases h
    exact .nil
  | o :: os, _, ds, .cons a b, h => by
    unfold resolves at h
    cases h1 : resolve o e with
    | none => rw [h1] at h; cases h
    | some d =>
      rw [h1] at h
      cases h2 : resolves os e with
      | none => rw [h2] at h; cases h
      | some ds' =>
        rw [h2] at h
        cases h
        exact .cons (s.rb a h1) (s.rbs b h2)
/-- an operation on one value, on two, on a list of them: f says what it gives -/
def Op1 (K : Fg) (r : V → Hp → VK → Prop) (f : D → Option D) : Prop := ∀ (G H : Hp) (d : D) (v : V) (d' : D) (Q : VK), LeG G H → RB K G H d v → f d = some d' →
  (∀ v' G' H', Grow G H G' H' → RD K G' d' v' → Q v' H') → r v H Q
def Op2 (K : Fg) (r : R2) (f : D → D → Option D) : Prop := ∀ (G H : Hp) (d1 d2 : D) (v1 v2 : V) (d' : D) (Q : VK), LeG G H → RB K G H d1 v1 → RB K G H d2 v2 → f d1 d2 = some d' →
  (∀ v' G' H', Grow G H G' H' → RD K G' d' v' → Q v' H') → r v1 v2 H Q
def OpN (K : Fg) (r : List V → Hp → VK → Prop) (f : List D → Option D) : Prop := ∀ (G H : Hp) (ds : List D) (vs : List V) (d' : D) (Q : VK), LeG G H → RBs K G H ds vs → f ds = some d' →
  (∀ v' G' H', Grow G H G' H' → RD K G' d' v' → Q v' H') → r vs H Q
def doOp1 (f : D → Option D) (o : Opd) : M D := fun e => match (resolve o e).bind f with | some d => .ok d e | none => .stuck
def doOp2 (f : D → D → Option D) (o1 o2 : Opd) : M D := fun e => match (resolve o1 e).bind fun d1 => (resolve o2 e).bind fun d2 => f d1 d2 with | some d => .ok d e | none => .stuck
def doOpN (f : List D → Option D) (os : List Opd) : M D := fun e => match (resolves os e).bind f with | some d => .ok d e | none => .stuck
section
variable {T : ExcT} {K : Fg} {F : Frm} {σ : L2.St} {H G : Hp} {e : Env} {Q : VK}
theorem aft_op1 {r : V → Hp → VK → Prop} {f : D → Option D} (op : Op1 K r f) (s : SR K F σ H e G) {o : Opd} {v : V} (ro : rO K σ G o v) (h : Aft T K F σ (rE K σ) G (doOp1 f o e) Q) : r v H Q := by
  unfold doOp1 at h
  cases h1 : resolve o e with
  | none => rw [h1] at h; exact h.elim
  | some d =>
    rw [h1] at h
    cases h2 : f d with
    | none => rw [show (some d : Option D).bind f = f d from rfl, h2] at h; exact h.elim
    | some d' =>
      rw [show (some d : Option D).bind f = f d from rfl, h2] at h
      exact op G H d v d' Q s.le (s.rb ro h1) h2 fun v' G' H' w q => h v' H' G' (s.grow w) w.g q
theorem aft_op2 {r : R2} {f : D → D → Option D} (op : Op2 K r f) (s : SR K F σ H e G) {o1 o2 : Opd} {v1 v2 : V} (r1 : rO K σ G o1 v1) (r2 : rO K σ G o2 v2) (h : Aft T K F σ (rE K σ) G (doOp2 f o1 o2 e) Q) : r v1 v2 H Q := by
  unfold doOp2 at h
  cases h1 : resolve o1 e with
  | none => rw [h1] at h; exact h.elim
  | some d1 =>
    rw [h1] at h
    cases h2 : resolve o2 e with
    | none => rw [h2] at h; exact h.elim
    | some d2 =>
      rw [h2] at h
      cases h3 : f d1 d2 with
      | none =>
        rw [show ((some d1 : Option D).bind fun d1 => (some d2 : Option D).bind fun d2 => f d1 d2) = f d1 d2 from rfl, h3] at h
        exact h.elim
      | some d' =>
        rw [show ((some d1 : Option D).bind fun d1 => (some d2 : Option D).bind fun d2 => f d1 d2) = f d1 d2 from rfl, h3] at h
        exact op G H d1 d2 v1 v2 d' Q s.le (s.rb r1 h1) (s.rb r2 h2) h3 fun v' G' H' w q => h v' H' G' (s.grow w) w.g q
theorem aft_opN {r : List V → Hp → VK → Prop} {f : List D → Option D} (op : OpN K r f) (s : SR K F σ H e G) {os : List Opd} {vs : List V} (ro : ROs K σ G os vs) (h : Aft T K F σ (rE K σ) G (doOpN f os e) Q) : r vs H Q := by
  unfold doOpN at h
  cases h1 : resolves os e with
  | none => rw [h1] at h; exact h.elim
  | some ds =>
    rw [h1] at h
    cases h2 : f ds with
    | none => rw [show (some ds : Option (List D)).bind f = f ds from rfl, h2] at h; exact h.elim
    | some d' =>
      rw [show (some ds : Option (List D)).bind f = f ds from rfl, h2] at h
      exact op G H ds vs d' Q s.le (s.rbs ro h1) h2 fun v' G' H' w q => h v' H' G' (s.grow w) w.g q
end
section
variable {T : ExcT} {X : Cx} {a b c : Expr} {ma mb mc : M Opd} {pos : Pos}
/-- a value is an operand -/
theorem SE.so {m : M D} (h : SE T X a m) : SO T X a (M.bind m fun d => M.pure (.inl d)) := fun F tk => PE.weak (h F tk) fun σ H Q ⟨e, G, s, q⟩ => by
  refine ⟨e, G, s, (Aft.bind q).mono fun v H1 ⟨d, e1, G1, s1, l1, r1, q1⟩ => q1 v H1 G1 s1 LeG.refl r1⟩
theorem se_bin {op : Operator} {r : R2} {f : D → D → Option D} (ho : OpR X (binaryOp op) r) (op2 : Op2 X.K r f) (ha : SO T X a ma) (hb : SO T X b mb) :
    SE T X (.BinOp a op b pos) (M.bind ma fun o1 => M.bind mb fun o2 => doOp2 f o1 o2) := fun F tk => PE.weak (pe_op ho (ha F tk) (hb F tk)) fun σ H Q ⟨e, G, s, q⟩ => by
  refine ⟨e, G, s, (Aft.bind q).mono fun v1 H1 ⟨o1, e1, G1, s1, l1, r1, q1⟩ => ?_⟩
  refine ⟨e1, G1, s1, (Aft.bind q1).mono fun v2 H2 ⟨o2, e2, G2, s2, l2, r2, q2⟩ => ?_⟩
  exact aft_op2 op2 s2 (rO.le l2 r1) r2 q2
theorem se_un {op : UnaryOp} {r : V → Hp → VK → Prop} {f : D → Option D} (ho : UnR X (unaryOp op) r) (op1 : Op1 X.K r f) (ha : SO T X a ma) :
    SE T X (.UnaryOp op a pos) (M.bind ma fun o1 => doOp1 f o1) := fun F tk => PE.weak (pe_un ho (ha F tk)) fun σ H Q ⟨e, G, s, q⟩ => by
  refine ⟨e, G, s, (Aft.bind q).mono fun v1 H1 ⟨o1, e1, G1, s1, l1, r1, q1⟩ => ?_⟩
  exact aft_op1 op1 s1 r1 q1
theorem se_cmp {op : CmpOp} {r : R2} {f : D → D → Option D} (ho : OpR X (compareOp op) r) (op2 : Op2 X.K r f) (ha : SO T X a ma) (hb : SO T X b mb) (hm : behindInMarks op b = false) :
    SE T X (.Compare a [op] [b] pos) (M.bind ma fun o1 => M.bind mb fun o2 => doOp2 f o1 o2) := fun F tk => PE.weak (pe_cmpR ho (ha F tk) (hb F tk) hm) fun σ H Q ⟨e, G, s, q⟩ => by
  refine ⟨e, G, s, (Aft.bind q).mono fun v1 H1 ⟨o1, e1, G1, s1, l1, r1, q1⟩ => ?_⟩
  refine ⟨e1, G1, s1, (Aft.bind q1).mono fun v2 H2 ⟨o2, e2, G2, s2, l2, r2, q2⟩ => ?_⟩
  exact aft_op2 op2 s2 (rO.le l2 r1) r2 q2
def asB (d : D) : M Bool := M.of (match d with | .bool b => some b | _ => none)
theorem aft_asB {K : Fg} {F : Frm} {σ : L2.St} {H G : Hp} {e : Env} {Q : Bool → Hp → Prop} {d : D} {v : V} (s : SR K F σ H e G) (r : RD K G d v) (h : Aft T K F σ (rT σ) G (asB d e) Q) : ∃ k, v = .bl k ∧ d = .bool k ∧ Q k H := by
  cases d with
  | bool k =>
    cases r
    exact ⟨k, rfl, rfl, h k H G s LeG.refl rfl⟩
  | _ => exact h.elim
theorem sb_cmp {op : CmpOp} {r : R2} {f : D → D → Option D} (ho : OpR X (compareOp op) r) (op2 : Op2 X.K r f) (ha : SO T X a ma) (hb : SO T X b mb) (hm : behindInMarks op b = false) :
    SB T X (.Compare a [op] [b] pos) (M.bind (M.bind ma fun o1 => M.bind mb fun o2 => doOp2 f o1 o2) asB) := fun F tk => PT.weak (pt_cmpR ho (ha F tk) (hb F tk) hm) fun σ H Q ⟨e, G, s, q⟩ => by
  have q' := Aft.bind (rel := rE X.K σ) q
  refine ⟨e, G, s, (Aft.bind q').mono fun v1 H1 ⟨o1, e1, G1, s1, l1, r1, q1⟩ => ?_⟩
  refine ⟨e1, G1, s1, (Aft.bind q1).mono fun v2 H2 ⟨o2, e2, G2, s2, l2, r2, q2⟩ => ?_⟩
  refine aft_op2 op2 s2 (rO.le l2 r1) r2 (q2.mono fun v H3 ⟨d, e3, G3, s3, l3, r3, q3⟩ => ?_)
  obtain ⟨k, h1, _, h3⟩ := aft_asB s3 r3 q3
  exact ⟨k, h1, h3⟩
/-- a value as a test -/
theorem SE.sb {m : M D} (h : SE T X a m) (he : ∀ whole, isTrue a X.env whole = (do let v ← whole; standAt a.pos; holding [v] (truthy v))) : SB T X a (M.bind m asB) := fun F tk => PT.weak (pt_val (h F tk) he) fun σ H Q ⟨e, G, s, q⟩ => by
  refine ⟨e, G, s, (Aft.bind q).mono fun v H1 ⟨d, e1, G1, s1, l1, r1, q1⟩ => ?_⟩
  obtain ⟨k, h1, _, h3⟩ := aft_asB s1 r1 q1
  exact ⟨k, h1, h3⟩
theorem sb_not {m : M Bool} (h : SB T X a m) : SB T X (.UnaryOp .Not a pos) (M.bind m fun b => M.pure (!b)) := fun F tk => PT.weak (pt_not (h F tk)) fun σ H Q ⟨e, G, s, q⟩ => by
  refine ⟨e, G, s, (Aft.bind q).mono fun v H1 ⟨d, e1, G1, s1, l1, r1, q1⟩ => ?_⟩
  have z : d = v := r1
  subst z
  exact q1 (!d) H1 G1 s1 LeG.refl rfl
theorem sbw_and1 {m : M Bool} (h : SB T X a m) : SBW T X (.BoolOp .And [a] pos) m := fun F tk => pw_and1 (h F tk)
theorem sbw_or1 {m : M Bool} (h : SB T X a m) : SBW T X (.BoolOp .Or [a] pos) m := fun F tk => pw_or1 (h F tk)
theorem SBW.sb {m : M Bool} (h : SBW T X a m) : SB T X a m := fun F tk => PW.pt (h F tk)
theorem sbw_and {rest : List Expr} {m m' : M Bool} (h : SB T X a m) (h' : SBW T X (.BoolOp .And (b :: rest) pos) m') : SBW T X (.BoolOp .And (a :: b :: rest) pos) (M.bind m fun k => if k then m' else M.pure false) :=
  fun F tk => PW.weak (pw_and (h F tk) (h' F tk)) fun σ H Q ⟨e, G, s, q⟩ => by
  refine ⟨e, G, s, (Aft.bind q).mono fun v H1 ⟨d, e1, G1, s1, l1, r1, q1⟩ => ?_⟩
  have z : d = v := r1
  subst z
  cases d with
  | true => exact ⟨e1, G1, s1, q1⟩
  | false => exact q1 false H1 G1 s1 LeG.refl rfl
theorem sbw_or {rest : List Expr} {m m' : M Bool} (h : SB T X a m) (h' : SBW T X (.BoolOp .Or (b :: rest) pos) m') : SBW T X (.BoolOp .Or (a :: b :: rest) pos) (M.bind m fun k => if k then M.pure true else m') :=
  fun F tk => PW.weak (pw_or (h F tk) (h' F tk)) fun σ H Q ⟨e, G, s, q⟩ => by
  refine ⟨e, G, s, (Aft.bind q).mono fun v H1 ⟨d, e1, G1, s1, l1, r1, q1⟩ => ?_⟩
  have z : d = v := r1
  subst z
  cases d with
  | true => exact q1 true H1 G1 s1 LeG.refl rfl
  | false => exact ⟨e1, G1, s1, q1⟩
/-- and, or, not as values -/
theorem se_one {op : BoolOp} {m : M D} (h : SE T X a m) : SE T X (.BoolOp op [a] pos) m := fun F tk => pe_one (h F tk)
theorem se_and {rest : List Expr} {m m' : M D} (h : SE T X a m) (h' : SE T X (.BoolOp .And (b :: rest) pos) m') : SE T X (.BoolOp .And (a :: b :: rest) pos) (M.bind (M.bind m asB) fun k => if k then m' else M.pure (.bool false)) :=
  fun F tk => PE.weak (pe_and (h F tk) (h' F tk)) fun σ H Q ⟨e, G, s, q⟩ => by
  have q' := Aft.bind (rel := rT σ) q
  refine ⟨e, G, s, (Aft.bind q').mono fun v H1 ⟨d, e1, G1, s1, l1, r1, q1⟩ => ?_⟩
  obtain ⟨k, h1, h2, h3⟩ := aft_asB s1 r1 q1
  obtain ⟨k', e2, G2, s2, l2, r2, q2⟩ := h3
  have z : k' = k := r2
  subst z
  refine ⟨k', h1, ?_⟩
  cases k' with
  | true => exact ⟨e2, G2, s2, q2⟩
  | false => exact q2 _ H1 G2 s2 LeG.refl (.bl false)
theorem se_or {rest : List Expr} {m m' : M D} (h : SE T X a m) (h' : SE T X (.BoolOp .Or (b :: rest) pos) m') : SE T X (.BoolOp .Or (a :: b :: rest) pos) (M.bind (M.bind m asB) fun k => if k then M.pure (.bool true) else m') :=
  fun F tk => PE.weak (pe_or (h F tk) (h' F tk)) fun σ H Q ⟨e, G, s, q⟩ => by
  have q' := Aft.bind (rel := rT σ) q
  refine ⟨e, G, s, (Aft.bind q').mono fun v H1 ⟨d, e1, G1, s1, l1, r1, q1⟩ => ?_⟩
  obtain ⟨k, h1, h2, h3⟩ := aft_asB s1 r1 q1
  obtain ⟨k', e2, G2, s2, l2, r2, q2⟩ := h3
  have z : k' = k := r2
  subst z
  refine ⟨k', h1, ?_⟩
  cases k' with
  | true => exact q2 _ H1 G2 s2 LeG.refl (.bl true)
  | false => exact ⟨e2, G2, s2, q2⟩
theorem se_not {m : M D} (h : SE T X a m) : SE T X (.UnaryOp .Not a pos) (M.bind (M.bind m asB) fun k => M.pure (.bool !k)) := fun F tk => PE.weak (pe_not (h F tk)) fun σ H Q ⟨e, G, s, q⟩ => by
  have q' := Aft.bind (rel := rT σ) q
  refine ⟨e, G, s, (Aft.bind q').mono fun v H1 ⟨d, e1, G1, s1, l1, r1, q1⟩ => ?_⟩
  obtain ⟨k, h1, h2, h3⟩ := aft_asB s1 r1 q1
  obtain ⟨k', e2, G2, s2, l2, r2, q2⟩ := h3
  have z : k' = k := r2
  subst z
  exact ⟨k', h1, q2 _ H1 G2 s2 LeG.refl (.bl _)⟩
theorem se_if {mt : M Bool} {m m' : M D} (ht : SB T X c mt) (h : SE T X a m) (h' : SE T X b m') : SE T X (.IfExp c a b pos) (M.bind mt fun k => if k then m else m') := fun F tk => PE.weak (pe_ifExp (ht F tk) (h F tk) (h' F tk)) fun σ H Q ⟨e, G, s, q⟩ => by
  refine ⟨e, G, s, (Aft.bind q).mono fun v H1 ⟨d, e1, G1, s1, l1, r1, q1⟩ => ?_⟩
  have z : d = v := r1
  subst z
  cases d with
  | true => exact ⟨e1, G1, s1, q1⟩
  | false => exact ⟨e1, G1, s1, q1⟩
/-- a chain of two comparisons -/
theorem se_chain {op op' : CmpOp} {r r' : R2} {f f' : D → D → Option D} (ho : OpR X (compareOp op) r) (ho' : OpR X (compareOp op') r') (op2 : Op2 X.K r f) (op2' : Op2 X.K r' f') (ha : SO T X a ma) (hb : SO T X b mb) (hc : SO T X c mc)
    (hm : lastMarks [op, op'] [b, c] = false) :
    SE T X (.Compare a [op, op'] [b, c] pos) (M.bind ma fun o1 => M.bind mb fun o2 => M.bind (M.bind (doOp2 f o1 o2) asB) fun k => if k then M.bind mc fun o3 => doOp2 f' o2 o3 else M.pure (.bool false)) := fun F tk =>
  PE.weak (pe_chain ho ho' (ha F tk) (hb F tk) (hc F tk) hm) fun σ H Q ⟨e, G, s, q⟩ => by
  refine ⟨e, G, s, (Aft.bind q).mono fun v1 H1 ⟨o1, e1, G1, s1, l1, r1, q1⟩ => ?_⟩
  refine ⟨e1, G1, s1, (Aft.bind q1).mono fun v2 H2 ⟨o2, e2, G2, s2, l2, r2, q2⟩ => ?_⟩
  have q3 := Aft.bind (rel := rT σ) q2
  refine aft_op2 op2 s2 (rO.le l2 r1) r2 ((Aft.bind q3).mono fun v H3 ⟨d, e3, G3, s3, l3, r3, q4⟩ => ?_)
  obtain ⟨k, h1, _, h3⟩ := aft_asB s3 r3 q4
  obtain ⟨k', e4, G4, s4, l4, r4, q5⟩ := h3
  have z : k' = k := r4
  subst z
  refine ⟨k', h1, ?_⟩
  cases k' with
  | true =>
    refine ⟨e4, G4, s4, (Aft.bind q5).mono fun v5 H5 ⟨o5, e5, G5, s5, l5, r5, q6⟩ => ?_⟩
    exact aft_op2 op2' s5 (rO.le l5 (rO.le l4 r2)) r5 q6
  | false => exact q5 _ H3 G4 s4 LeG.refl (.bl false)
theorem sb_chain {op op' : CmpOp} {r r' : R2} {f f' : D → D → Option D} (ho : OpR X (compareOp op) r) (ho' : OpR X (compareOp op') r') (op2 : Op2 X.K r f) (op2' : Op2 X.K r' f') (ha : SO T X a ma) (hb : SO T X b mb) (hc : SO T X c mc)
    (hm : lastMarks [op, op'] [b, c] = false) :
    SB T X (.Compare a [op, op'] [b, c] pos) (M.bind (M.bind ma fun o1 => M.bind mb fun o2 => M.bind (M.bind (doOp2 f o1 o2) asB) fun k => if k then M.bind mc fun o3 => doOp2 f' o2 o3 else M.pure (.bool false)) asB) := fun F tk =>
  PT.weak (pt_chain ho ho' (ha F tk) (hb F tk) (hc F tk) hm) fun σ H Q ⟨e, G, s, q⟩ => by
  have q0 := Aft.bind (rel := rE X.K σ) q
  have fin : ∀ {v : V} {H' : Hp} , (∃ a e1 G1, SR X.K F σ H' e1 G1 ∧ LeG G G1 ∧ rE X.K σ G1 a v ∧ Aft T X.K F σ (rT σ) G1 (asB a e1) Q) → ∃ k, v = .bl k ∧ Q k H' := fun ⟨d, e3, G3, s3, l3, r3, q3⟩ => by
    obtain ⟨k, h1, _, h3⟩ := aft_asB s3 r3 q3
    exact ⟨k, h1, h3⟩
  refine ⟨e, G, s, (Aft.bind q0).mono fun v1 H1 ⟨o1, e1, G1, s1, l1, r1, q1⟩ => ?_⟩
  refine ⟨e1, G1, s1, (Aft.bind q1).mono fun v2 H2 ⟨o2, e2, G2, s2, l2, r2, q2⟩ => ?_⟩
  have q3 := Aft.bind (rel := rT σ) q2
  refine aft_op2 op2 s2 (rO.le l2 r1) r2 ((Aft.bind q3).mono fun v H3 ⟨d, e3, G3, s3, l3, r3, q4⟩ => ?_)
  obtain ⟨k, h1, _, h3⟩ := aft_asB s3 r3 q4
  obtain ⟨k', e4, G4, s4, l4, r4, q5⟩ := h3
  have z : k' = k := r4
  subst z
  refine ⟨k', h1, ?_⟩
  cases k' with
  | true =>
    refine ⟨e4, G4, s4, (Aft.bind q5).mono fun v5 H5 ⟨o5, e5, G5, s5, l5, r5, q6⟩ => ?_⟩
    exact (aft_op2 op2' s5 (rO.le l5 (rO.le l4 r2)) r5 (q6.mono fun v H h => fin h))
  | false => exact fin (q5 _ H3 G4 s4 LeG.refl (.bl false))
end
end Tp
/-! Tp3: names, constants, new objects, argument lists, calls of defs. -/
namespace Tp
open PySem PySem.Spec PyProof.Rows L2
abbrev Frm.plus (F : Frm) (p : Addr) (o : HO) : Frm := { F with R := (p, o) :: F.R }
section
variable {K : Fg} {F : Frm} {σ : L2.St} {H H' G G' : Hp} {e : Env} {p : Addr} {o : HO}
/-- a fresh object in the making -/
theorem SR.made (s : SR K F σ H e G) (np : H p = none) : SR K (F.plus p o) σ (upd H p o) e G := by
  have w := Grow.hid s.le np o
  have s' := s.grow w
  have np0 : F.H0 p = none := by
    cases z : F.H0 p with
    | none => rfl
    | some u =>
      by_cases hb : p ∈ F.O
      · obtain ⟨q, hq, rfl⟩ := List.mem_map.mp hb
        obtain ⟨h1, d, h2⟩ := s.iosv q hq
        obtain ⟨a, h3, h4, _⟩ := s.iosl q.1 d h2
        have h5 := (s.iosv _ h3).1
        rw [h1] at h5
        have h6 : q.2 = a := by
          injection h5 with h5
          injection h5 with h5
          injection h5
        obtain ⟨v, hv⟩ := h4.there
        rw [← h6, np] at hv
        cases hv
      · rw [s.keep p u hb z] at np; cases np
  have gp : G p = none := by
    cases z : G p with
    | none => rfl
    | some u => rw [s.le p u z] at np; cases np
  have ne : ∀ {a : Addr} {d : D}, OwnAt K G H a d → p ≠ a := fun {a d} ho z => by
    subst z
    obtain ⟨u, hu⟩ := ho.there
    rw [np] at hu; cases hu
  refine ⟨s'.le, s'.len, s'.vals, fun i d h => ?_, fun i d h => ?_, s'.iosv, s'.dist, s'.keep, s'.gk, s'.fresh, fun q hq => ?_⟩
  · obtain ⟨a, h1, h2, h3, h4⟩ := s.owns i d h
    obtain ⟨a', h1', h2', h3', h4'⟩ := s'.owns i d h
    refine ⟨a', h1', h2', h3', fun q hq => ?_⟩
    rcases List.mem_cons.mp hq with rfl | hq
    · rw [h1] at h1'
      have : a = a' := by
        injection h1' with h1'
        injection h1' with h1'
        injection h1'
      subst this
      exact ne h2
    · exact h4' q hq
  · obtain ⟨a, h1, h2, h4⟩ := s.iosl i d h
    obtain ⟨a', h1', h2', h4'⟩ := s'.iosl i d h
    have ea : a = a' := by
      have q1 := (s.iosv _ h1).1
      have q2 := (s.iosv _ h1').1
      simp only at q1 q2
      rw [q1] at q2
      injection q2 with q2
      injection q2 with q2
      injection q2
    subst ea
    refine ⟨a, h1', h2', fun q hq => ?_⟩
    rcases List.mem_cons.mp hq with rfl | hq
    · exact ne h2
    · exact h4' q hq
  · rcases List.mem_cons.mp hq with rfl | hq
    · exact ⟨upd_same, gp, np0⟩
    · exact s'.res q hq
/-- what was made is forgotten -/
theorem SR.unplus (s : SR K (F.plus p o) σ H e G) : SR K F σ H e G :=
  ⟨s.le, s.len, s.vals, fun i d h => let ⟨a, h1, h2, h3, h4⟩ := s.owns i d h; ⟨a, h1, h2, h3, fun q hq => h4 q (List.mem_cons_of_mem _ hq)⟩, fun i d h => let ⟨a, h1, h2, h4⟩ := s.iosl i d h; ⟨a, h1, h2, fun q hq => h4 q (List.mem_cons_of_mem _ hq)⟩,
    s.iosv, s.dist, s.keep, s.gk, s.fresh, fun q hq => s.res q (List.mem_cons_of_mem _ hq)⟩
/-- the object in the making changes -/
theorem SR.remade {o' : HO} (s : SR K (F.plus p o) σ H e G) (hR : ∀ q ∈ F.R, q.1 ≠ p) : SR K (F.plus p o') σ (upd H p o') e G := by
  obtain ⟨h1, h2, h3⟩ := s.res (p, o) List.mem_cons_self
  have keepO : ∀ {a : Addr} {d : D}, p ≠ a → OwnAt K G H a d → OwnAt K G (upd H p o') a d := fun {a d} hne ho => ho.mono LeG.refl ho.free fun u q => by rw [upd_ne (Ne.symm hne)]; exact q
  refine ⟨fun b u q => ?_, s.len, s.vals, fun i d h => ?_, fun i d h => ?_, s.iosv, s.dist, fun b u hb q => ?_, s.gk, s.fresh, fun q hq => ?_⟩
  · have hb : b ≠ p := fun z => by subst z; rw [h2] at q; cases q
    rw [upd_ne hb]; exact s.le b u q
  · obtain ⟨a, k1, k2, k3, k4⟩ := s.owns i d h
    exact ⟨a, k1, keepO (k4 (p, o) List.mem_cons_self) k2, k3, fun q hq => by
      rcases List.mem_cons.mp hq with rfl | hq
      · exact k4 (p, o) List.mem_cons_self
      · exact k4 q (List.mem_cons_of_mem _ hq)⟩
  · obtain ⟨a, k1, k2, k4⟩ := s.iosl i d h
    exact ⟨a, k1, keepO (k4 (p, o) List.mem_cons_self) k2, fun q hq => by
      rcases List.mem_cons.mp hq with rfl | hq
      · exact k4 (p, o) List.mem_cons_self
      · exact k4 q (List.mem_cons_of_mem _ hq)⟩
  · have hb' : b ≠ p := fun z => by subst z; rw [h3] at q; cases q
    rw [upd_ne hb']; exact s.keep b u hb q
  · rcases List.mem_cons.mp hq with rfl | hq
    · exact ⟨upd_same, h2, h3⟩
    · obtain ⟨k1, k2, k3⟩ := s.res q (List.mem_cons_of_mem _ hq)
      exact ⟨by rw [upd_ne (hR q hq)]; exact k1, k2, k3⟩
/-- what was made is known from now on -/
theorem SR.froze (s : SR K (F.plus p o) σ H e G) (hR : ∀ q ∈ F.R, q.1 ≠ p) : SR K F σ H e (upd G p o) ∧ LeG G (upd G p o) := by
  obtain ⟨h1, h2, h3⟩ := s.res (p, o) List.mem_cons_self
  have gl : LeG G (upd G p o) := fun b u q => by
    rw [upd_ne (ne_of_none q h2)]; exact q
  refine ⟨⟨fun b u q => ?_, s.len, fun i d h => ?_, fun i d h => ?_, fun i d h => ?_, s.iosv, s.dist, s.keep, s.gk.trans gl, fun b u q => ?_, fun q hq => ?_⟩, gl⟩
  · by_cases hb : b = p
    · subst hb; rw [upd_same] at q; rw [← q]; exact h1
    · rw [upd_ne hb] at q; exact s.le b u q
  · obtain ⟨v, k1, k2⟩ := s.vals i d h
    exact ⟨v, k1, k2.le gl⟩
  · obtain ⟨a, k1, k2, k3, k4⟩ := s.owns i d h
    have ne := k4 _ List.mem_cons_self
    exact ⟨a, k1, k2.mono gl (by rw [upd_ne (Ne.symm ne)]; exact k2.free) fun _ z => z, k3, fun q hq => k4 q (List.mem_cons_of_mem _ hq)⟩
  · obtain ⟨a, k1, k2, k4⟩ := s.iosl i d h
    have ne := k4 _ List.mem_cons_self
    exact ⟨a, k1, k2.mono gl (by rw [upd_ne (Ne.symm ne)]; exact k2.free) fun _ z => z, fun q hq => k4 q (List.mem_cons_of_mem _ hq)⟩
  · by_cases hb : b = p
    · subst hb; exact .inr h3
    · rw [upd_ne hb] at q; exact s.fresh b u q
  · obtain ⟨k1, k2, k3⟩ := s.res q (List.mem_cons_of_mem _ hq)
    exact ⟨k1, by rw [upd_ne (hR q hq)]; exact k2, k3⟩
/-- an own object's data, once it is known -/
theorem OwnAt.rd {d : D} (h : OwnAt K G H p d) (ho : H p = some o) (l : LeG G (upd G p o)) : RD K (upd G p o) d (.ref p) := by
  cases d with
  | list ds =>
    obtain ⟨_, vs, h1, r⟩ := h
    rw [ho] at h1; cases h1
    exact .lst (.inl (.inl upd_same)) (r.le l)
  | dict kvs =>
    obtain ⟨_, ⟨ks, vs, ds, h1, n, r, rfl⟩ | ⟨ks, vs, ds, h1, n, r, rfl⟩⟩ := h
    · rw [ho] at h1; cases h1
      exact .dK (.inl upd_same) n (r.le l)
    · rw [ho] at h1; cases h1
      exact .dT (.inl upd_same) n (r.le l)
  | _ => exact h.elim
end
/-- outcomes that are new objects -/
def AftN (T : ExcT) (K : Fg) (F : Frm) (σ : L2.St) (G : Hp) (r : Res D) (Q : VK) : Prop :=
  match r with
  | .ok d e => ∀ p o H' G', (∀ q ∈ F.R, q.1 ≠ p) → SR K (F.plus p o) σ H' e G' → LeG G G' → OwnAt K G' H' p d → Q (.ref p) H'
  | .exc c x e => ∀ cls dd H' G', SR K F σ H' e G' → LeG G G' → ExcOk T K G' H' c x cls dd → F.W cls dd σ H'
  | .stuck => False
def tN (T : ExcT) (K : Fg) (F : Frm) (m : M D) : TE := fun σ H Q => ∃ e G, SR K F σ H e G ∧ AftN T K F σ G (m e) Q
/-- an expression gives a new list or dict -/
def SN (T : ExcT) (X : Cx) (ex : Expr) (m : M D) : Prop := ∀ F : Frm, Takes X F.W → PE X ex (tN T X.K F m)
section
variable {T : ExcT} {K : Fg} {F : Frm} {σ : L2.St} {H G G' : Hp} {e : Env} {Q : VK}
theorem AftN.weak {r : Res D} (h : AftN T K F σ G r Q) (le : LeG G G') : AftN T K F σ G' r Q := by
  cases r with
  | ok a e => exact fun p o H1 G1 n s l r => h p o H1 G1 n s (le.trans l) r
  | exc c x e => exact fun cls dd H1 G1 s l r => h cls dd H1 G1 s (le.trans l) r
  | stuck => exact h.elim
theorem AftN.mono {r : Res D} {Q' : VK} (h : AftN T K F σ G r Q) (hq : ∀ v H, Q v H → Q' v H) : AftN T K F σ G r Q' := by
  cases r with
  | ok a e => exact fun p o H1 G1 n s l r => hq _ _ (h p o H1 G1 n s l r)
  | exc c x e => exact fun cls dd H1 G1 s l r => h cls dd H1 G1 s l r
  | stuck => exact h.elim
theorem AftN.bind {α β : Type} {rel : Hp → α → β → Prop} {m : M α} {k : α → M D} (h : AftN T K F σ G (M.bind m k e) Q) :
    Aft T K F σ rel G (m e) (fun v H1 => ∃ a e1 G1, SR K F σ H1 e1 G1 ∧ LeG G G1 ∧ rel G1 a v ∧ AftN T K F σ G1 (k a e1) Q) := by
  unfold M.bind at h
  cases hm : m e with
  | ok a e1 =>
    rw [hm] at h
    exact fun v H1 G1 s l r => ⟨a, e1, G1, s, l, r, h.weak l⟩
  | exc c x e1 =>
    rw [hm] at h
    exact h
  | stuck =>
    rw [hm] at h
    exact h.elim
/-- a new object is a value -/
theorem Aft.newly {r : Res D} (h : Aft T K F σ (rE K σ) G r Q) : AftN T K F σ G r Q := by
  cases r with
  | ok d e =>
    intro p o H' G' n s l own
    obtain ⟨s', l'⟩ := s.froze n
    exact h (.ref p) H' _ s' (l.trans l') (own.rd (s.res (p, o) List.mem_cons_self).1 l')
  | exc c x e => exact fun cls dd H1 G1 s l r => h cls dd H1 G1 s l r
  | stuck => exact h.elim
/-- a fresh object is laid: it may be taken as new -/
theorem AftN.new {d : D} {p : Addr} {o : HO} (s : SR K F σ H e G) (np : H p = none) (own : OwnAt K G (upd H p o) p d) (h : AftN T K F σ G (.ok d e) Q) : Q (.ref p) (upd H p o) :=
  h p o _ G (fun q hq z => by
    have := (s.res q hq).1
    rw [z, np] at this; cases this) (s.made np) LeG.refl own
end
theorem SN.se {T : ExcT} {X : Cx} {ex : Expr} {m : M D} (h : SN T X ex m) : SE T X ex m := fun F tk => PE.weak (h F tk) fun σ H Q ⟨e, G, s, q⟩ => ⟨e, G, s, q.newly⟩
/-! ### names, constants -/
def mVar (i : Nat) : M D := fun e => match e[i]? with | some (.val d) => .ok d e | _ => .stuck
/-- as an operand: an own object is not looked into yet -/
def mVarO (i : Nat) : M Opd := fun e => match e[i]? with | some (.val d) => .ok (.inl d) e | some (.own _) => .ok (.inr i) e | some (.io _) => .ok (.inr i) e | _ => .stuck
/-- an own object is given up: from now on it does not change -/
def mFrz (i : Nat) : M D := fun e => match e[i]? with | some (.val d) => .ok d e | some (.own d) => .ok d (e.set i (.val d)) | _ => .stuck
section
variable {T : ExcT} {X : Cx} {i : Nat} {x : Str} {pos : Pos}
theorem se_var (hN : X.N[i]? = some x) (hv : Vis X.env.scope x) (hd : (x == ("__debug__" : Str)) = false) (hcd : (x == ("__classdict__" : Str)) = false) : SE T X (.Name x pos) (mVar i) := fun F _ => PE.weak (pe_var hN hv hd hcd) fun σ H Q ⟨e, G, s, q⟩ => by
  unfold mVar at q
  cases h : e[i]? with
  | none => rw [h] at q; exact q.elim
  | some sl =>
    rw [h] at q
    cases sl with
    | val d =>
      obtain ⟨v, h1, h2⟩ := s.vals i d h
      exact ⟨v, h1, q v H G s LeG.refl h2⟩
    | _ => exact q.elim
theorem so_var (hN : X.N[i]? = some x) (hv : Vis X.env.scope x) (hd : (x == ("__debug__" : Str)) = false) (hcd : (x == ("__classdict__" : Str)) = false) : SO T X (.Name x pos) (mVarO i) := fun F _ => PE.weak (pe_var hN hv hd hcd) fun σ H Q ⟨e, G, s, q⟩ => by
  unfold mVarO at q
  cases h : e[i]? with
  | none => rw [h] at q; exact q.elim
  | some sl =>
    rw [h] at q
    cases sl with
    | no => exact q.elim
    | val d =>
      obtain ⟨v, h1, h2⟩ := s.vals i d h
      exact ⟨v, h1, q v H G s LeG.refl h2⟩
    | own d =>
      obtain ⟨a, h1, _⟩ := s.mine (i := i) (d := d) (by rw [h]; rfl)
      exact ⟨.ref a, h1, q (.ref a) H G s LeG.refl h1⟩
    | io d =>
      obtain ⟨a, h1, _⟩ := s.mine (i := i) (d := d) (by rw [h]; rfl)
      exact ⟨.ref a, h1, q (.ref a) H G s LeG.refl h1⟩
theorem SR.freeze {K : Fg} {F : Frm} {σ : L2.St} {H G : Hp} {e : Env} {d : D} (s : SR K F σ H e G) (h : e[i]? = some (.own d)) : ∃ a G', σ[i]? = some (some (.ref a)) ∧ SR K F σ H (e.set i (.val d)) G' ∧ LeG G G' ∧ RD K G' d (.ref a) := by
  obtain ⟨a, h1, h2, h3, h4⟩ := s.owns i d h
  obtain ⟨o, ho⟩ := h2.there
  have hi : i < e.length := (List.getElem?_eq_some_iff.mp h).1
  have gl : LeG G (upd G a o) := fun b u q => by rw [upd_ne (ne_of_none q h2.free)]; exact q
  have rd := h2.rd ho gl
  have old : ∀ {j : Nat} {sl : Slot}, (e.set i (.val d))[j]? = some sl → (j = i ∧ sl = .val d) ∨ (j ≠ i ∧ e[j]? = some sl) := fun {j sl} hj => by
    by_cases z : j = i
    · subst z
      rw [List.getElem?_set_self hi] at hj
      exact .inl ⟨rfl, (Option.some.inj hj).symm⟩
    · rw [List.getElem?_set_ne (Ne.symm z)] at hj
      exact .inr ⟨z, hj⟩
  have mold : ∀ {j : Nat} {d' : D}, ((e.set i (.val d))[j]?).bind Slot.mine? = some d' → j ≠ i ∧ (e[j]?).bind Slot.mine? = some d' := fun {j d'} hj => by
    cases q : (e.set i (.val d))[j]? with
    | none => rw [q] at hj; cases hj
    | some sl =>
      rw [q] at hj
      rcases old q with ⟨_, rfl⟩ | ⟨z, w⟩
      · cases hj
      · exact ⟨z, by rw [w]; exact hj⟩
  refine ⟨a, upd G a o, h1, ⟨fun b u q => ?_, by rw [List.length_set]; exact s.len, fun j d' hj => ?_, fun j d' hj => ?_, fun j d' hj => ?_, fun p hp => ?_, fun j k d1 d2 b hjk hj hk => ?_, s.keep, s.gk.trans gl, fun b u q => ?_, fun p hp => ?_⟩, gl, rd⟩
  · by_cases hb : b = a
    · subst hb; rw [upd_same] at q; rw [← q]; exact ho
    · rw [upd_ne hb] at q; exact s.le b u q
  · rcases old hj with ⟨rfl, z⟩ | ⟨_, w⟩
    · injection z with z
      subst z
      exact ⟨.ref a, h1, rd⟩
    · obtain ⟨v, k1, k2⟩ := s.vals j d' w
      exact ⟨v, k1, k2.le gl⟩
  · rcases old hj with ⟨_, z⟩ | ⟨hne, w⟩
    · cases z
    · obtain ⟨b, k1, k2, k3, k4⟩ := s.owns j d' w
      have nb : b ≠ a := fun z => by
        subst z
        exact s.dist j i d' d b hne (by rw [w]; rfl) (by rw [h]; rfl) k1 h1
      exact ⟨b, k1, k2.mono gl (by rw [upd_ne nb]; exact k2.free) fun _ z => z, k3, k4⟩
  · rcases old hj with ⟨_, z⟩ | ⟨hne, w⟩
    · cases z
    · obtain ⟨b, k1, k2, k4⟩ := s.iosl j d' w
      have nb : b ≠ a := fun z => by
        subst z
        exact s.dist j i d' d b hne (by rw [w]; rfl) (by rw [h]; rfl) (s.iosv _ k1).1 h1
      exact ⟨b, k1, k2.mono gl (by rw [upd_ne nb]; exact k2.free) fun _ z => z, k4⟩
  · obtain ⟨k1, d', k2⟩ := s.iosv p hp
    refine ⟨k1, d', ?_⟩
    have hne : p.1 ≠ i := fun z => by rw [z, h] at k2; cases k2
    rw [List.getElem?_set_ne (Ne.symm hne)]
    exact k2
  · obtain ⟨n1, w1⟩ := mold hj
    obtain ⟨n2, w2⟩ := mold hk
    exact s.dist j k d1 d2 b hjk w1 w2
  · by_cases hb : b = a
    · subst hb; exact .inr h3
    · rw [upd_ne hb] at q; exact s.fresh b u q
  · obtain ⟨k1, k2, k3⟩ := s.res p hp
    exact ⟨k1, by rw [upd_ne (h4 p hp)]; exact k2, k3⟩
theorem se_frz (hN : X.N[i]? = some x) (hv : Vis X.env.scope x) (hd : (x == ("__debug__" : Str)) = false) (hcd : (x == ("__classdict__" : Str)) = false) : SE T X (.Name x pos) (mFrz i) := fun F _ => PE.weak (pe_var hN hv hd hcd) fun σ H Q ⟨e, G, s, q⟩ => by
  unfold mFrz at q
  cases h : e[i]? with
  | none => rw [h] at q; exact q.elim
  | some sl =>
    rw [h] at q
    cases sl with
    | no => exact q.elim
    | val d =>
      obtain ⟨v, h1, h2⟩ := s.vals i d h
      exact ⟨v, h1, q v H G s LeG.refl h2⟩
    | own d =>
      obtain ⟨a, G', h1, h2, h3, h4⟩ := s.freeze h
      exact ⟨.ref a, h1, q (.ref a) H G' h2 h3 h4⟩
    | io d => exact q.elim
/-- a value that is written -/
theorem se_const {ex : Expr} {d : D} {v : V} (h : PE X ex (tC v)) (r : ∀ G, RD X.K G d v) : SE T X ex (M.pure d) := fun F _ => PE.weak h fun σ H Q ⟨e, G, s, q⟩ => q v H G s LeG.refl (r G)
end
/-! ### argument lists, displays -/
def notStar : Expr → Bool
  | .Starred .. => false
  | _ => true
theorem star_cons {e : Expr} {es : List Expr} {env : PySem.Env} (h : notStar e = true) : starEach (e :: es) env = (false, eval e env) :: starEach es env := by
  cases e <;> first | rfl | cases h
theorem star_none {env : PySem.Env} {pos : Pos} : ∀ {es : List Expr}, es.all notStar = true → (backTo pos (starEach es env)).any (·.1) = false
  | [], _ => rfl
  | e :: es, h => by
    have h' : notStar e = true ∧ es.all notStar = true := by simpa using h
    rw [star_cons h'.1]
    show (false || (backTo pos (starEach es env)).any (·.1)) = false
    rw [star_none h'.2]
    rfl
section
variable {T : ExcT} {X : Cx} {e : Expr} {es : List Expr} {m : M Opd} {ms : M (List Opd)} {pos : Pos}
theorem sa_nil : SA T X [] (M.pure []) := fun F _ => PA.weak pa_nil fun σ H Q ⟨e, G, s, q⟩ => q [] H G s LeG.refl .nil
theorem sa_cons (h : SO T X e m) (hs : SA T X es ms) (ns : notStar e = true) : SA T X (e :: es) (M.bind m fun o => M.bind ms fun os => M.pure (o :: os)) := fun F tk => PA.weak (pa_cons (h F tk) (hs F tk) (star_cons ns)) fun σ H Q ⟨e, G, s, q⟩ => by
  refine ⟨e, G, s, (Aft.bind q).mono fun v H1 ⟨o, e1, G1, s1, l1, r1, q1⟩ => ?_⟩
  refine ⟨e1, G1, s1, (Aft.bind q1).mono fun vs H2 ⟨os, e2, G2, s2, l2, r2, q2⟩ => ?_⟩
  exact q2 (v :: vs) H2 G2 s2 LeG.refl (.cons (rO.le l2 r1) r2)
/-- values alone -/
def plains : List Opd → Option (List D)
  | [] => some []
  | .inl d :: os => (plains os).map (d :: ·)
  | .inr _ :: _ => none
theorem plains_rds {K : Fg} {σ : L2.St} {G : Hp} : ∀ {os : List Opd} {vs : List V} {ds : List D}, ROs K σ G os vs → plains os = some ds → RDs K G ds vs
  | _, _, _, .nil, h => by cases h; exact .nil
  | .inl d :: os, _, ds, .cons a b, h => by
    unfold plains at h
    cases h2 : plains os with
    | none => rw [h2] at h; cases h
    | some ds' =>
      rw [h2] at h
      cases h
      exact .cons a (plains_rds b h2)
  | .inr _ :: _, _, _, .cons _ _, h => by cases h
/-- a tuple, a list is displayed -/
def mkTup (os : List Opd) : M D := fun e => match plains os with | some ds => if ds.length ≤ sizeLine then .ok (.tuple ds) e else .stuck | none => .stuck
def mkLst (os : List Opd) : M D := fun e => match plains os with | some ds => if ds.length ≤ sizeLine then .ok (.list ds) e else .stuck | none => .stuck
theorem se_tup {k : Nat} (h : SA T X es ms) : SE T X (.Tuple es k pos) (M.bind ms mkTup) := fun F tk => PE.weak (pe_tup (h F tk)) fun σ H Q ⟨e, G, s, q⟩ => by
  refine ⟨e, G, s, (Aft.bind q).mono fun vs H1 ⟨os, e1, G1, s1, l1, r1, q1⟩ => ?_⟩
  unfold mkTup at q1
  cases h1 : plains os with
  | none => rw [h1] at q1; exact q1.elim
  | some ds =>
    rw [h1] at q1
    have rd := plains_rds r1 h1
    by_cases hz : ds.length ≤ sizeLine
    · simp only [if_pos hz] at q1
      refine ⟨by rw [← rd.length]; exact hz, fun p np => ?_⟩
      have w := Grow.one s1.le np (.tup vs)
      exact q1 (.ref p) _ _ (s1.grow w) w.g (.tup (.inl (.inl upd_same)) (rd.le w.g))
    · simp only [if_neg hz] at q1
      exact q1.elim
theorem sn_lst (h : SA T X es ms) : SN T X (.List es pos) (M.bind ms mkLst) := fun F tk => PE.weak (pe_lst (h F tk)) fun σ H Q ⟨e, G, s, q⟩ => by
  refine ⟨e, G, s, (AftN.bind q).mono fun vs H1 ⟨os, e1, G1, s1, l1, r1, q1⟩ => ?_⟩
  unfold mkLst at q1
  cases h1 : plains os with
  | none => rw [h1] at q1; exact q1.elim
  | some ds =>
    rw [h1] at q1
    have rd := plains_rds r1 h1
    by_cases hz : ds.length ≤ sizeLine
    · simp only [if_pos hz] at q1
      refine ⟨by rw [← rd.length]; exact hz, fun p np => ?_⟩
      refine AftN.new (d := .list ds) s1 np ⟨?_, vs, upd_same, rd⟩ q1
      cases z : G1 p with
      | none => rfl
      | some u => rw [s1.le p u z] at np; cases np
    · simp only [if_neg hz] at q1
      exact q1.elim
end
end Tp
/-! Tp4: what a def promises by a function of data, and its calls. -/
namespace Tp
open PySem PySem.Spec PyProof.Rows L2
/-- what a call gives: the value and what is left in the object that was handed in to be changed -/
inductive FRes where
  | ok (d out : D)
  | exc (c : Nat) (x : D) (out : D)
  | stuck
mutual
def flat : D → Bool
  | .none => true
  | .bool _ => true
  | .int _ => true
  | .str _ => true
  | .tuple ds => flats ds
  | .list _ => false
  | .dict _ => false
def flats : List D → Bool
  | [] => true
  | d :: ds => flat d && flats ds
end
/-- the arguments: the one at the place io is an object to be changed -/
def ArgsN (K : Fg) (G H : Hp) : Nat → List D → List V → Prop
  | 0, ds, vs => ∃ d ds' a vs', ds = d :: ds' ∧ vs = V.ref a :: vs' ∧ OwnAt K G H a d ∧ RDs K G ds' vs'
  | n + 1, ds, vs => ∃ d ds' v vs', ds = d :: ds' ∧ vs = v :: vs' ∧ RD K G d v ∧ ArgsN K G H n ds' vs'
def ArgsR (K : Fg) (G H : Hp) : Option Nat → List D → List V → Prop
  | none => fun ds vs => RDs K G ds vs
  | some n => ArgsN K G H n
def ioA : Option Nat → List V → Option Addr
  | some j, vs => match vs[j]? with | some (.ref a) => some a | _ => none
  | none, _ => none
theorem ArgsR.io {K : Fg} {G H : Hp} : ∀ {j : Nat} {ds : List D} {vs : List V}, ArgsN K G H j ds vs → ∃ a d, vs[j]? = some (.ref a) ∧ ds[j]? = some d ∧ OwnAt K G H a d
  | 0, _, _, ⟨d, ds', a, vs', rfl, rfl, o, _⟩ => ⟨a, d, rfl, rfl, o⟩
  | n + 1, _, _, ⟨d, ds', v, vs', rfl, rfl, _, h⟩ => by
    obtain ⟨a, d', h1, h2, o⟩ := ArgsR.io (j := n) h
    exact ⟨a, d', by simpa using h1, by simpa using h2, o⟩
theorem ArgsN.length {K : Fg} {G H : Hp} : ∀ {io : Nat} {ds : List D} {vs : List V}, ArgsN K G H io ds vs → ds.length = vs.length
  | 0, _, _, ⟨d, ds', a, vs', rfl, rfl, o, r⟩ => congrArg (· + 1) (RDs.length r)
  | n + 1, _, _, ⟨d, ds', v, vs', rfl, rfl, _, h⟩ => congrArg (· + 1) (ArgsN.length (io := n) h)
theorem ArgsR.length {K : Fg} {G H : Hp} : ∀ {io : Option Nat} {ds : List D} {vs : List V}, ArgsR K G H io ds vs → ds.length = vs.length
  | none, _, _, h => RDs.length (K := K) (G := G) h
  | some _, _, _, h => ArgsN.length (K := K) (G := G) (H := H) h
theorem ArgsN.val {K : Fg} {G H : Hp} : ∀ {io : Nat} {ds : List D} {vs : List V} {i : Nat} {d : D}, ArgsN K G H io ds vs → io ≠ i → ds[i]? = some d → ∃ v, vs[i]? = some v ∧ RD K G d v
  | 0, _, _, 0, _, _, n, _ => absurd rfl n
  | 0, _, _, i + 1, d, ⟨_, ds', a, vs', rfl, rfl, o, r⟩, _, e => by
    obtain ⟨v, h1, h2⟩ := RDs.get (i := i) r (by simpa using e)
    exact ⟨v, by simpa using h1, h2⟩
  | n + 1, _, _, 0, d, ⟨_, ds', v, vs', rfl, rfl, o, r⟩, _, e => by
    simp only [List.getElem?_cons_zero, Option.some.injEq] at e
    subst e
    exact ⟨v, rfl, o⟩
  | n + 1, _, _, i + 1, d, ⟨_, ds', v, vs', rfl, rfl, o, r⟩, ne, e => by
    obtain ⟨v, h1, h2⟩ := ArgsN.val (io := n) (i := i) r (fun z => ne (by rw [z])) (by simpa using e)
    exact ⟨v, by simpa using h1, h2⟩
theorem ArgsR.val {K : Fg} {G H : Hp} : ∀ {io : Option Nat} {ds : List D} {vs : List V} {i : Nat} {d : D}, ArgsR K G H io ds vs → io ≠ some i → ds[i]? = some d → ∃ v, vs[i]? = some v ∧ RD K G d v
  | none, _, _, _, _, h, _, e => RDs.get (K := K) (G := G) h e
  | some _, _, _, _, _, h, n, e => ArgsN.val (K := K) (G := G) (H := H) h (fun z => n (by rw [z])) e
/-- behind a call -/
structure CallEnd (io : Option Addr) (G H G' H' : Hp) : Prop where
  keep : ∀ b o, io ≠ some b → H b = some o → H' b = some o
  g : LeG G G'
  le : LeG G' H'
  new : ∀ b o, G' b = some o → G b = some o ∨ H b = none
def OutR (K : Fg) (io : Option Addr) (G' H' : Hp) (out : D) : Prop := match io with | some a => OwnAt K G' H' a out | none => True
/-- THE PROMISE of a def: f says what it gives -/
def spOf (T : ExcT) (K : Fg) (io : Option Nat) (own : Bool) (f : List D → FRes) : Sp := fun vs H Q E =>
  ∃ G ds, LeG G H ∧ ArgsR K G H io ds vs ∧
    match f ds with
    | .ok d out => ∀ v G' H', CallEnd (ioA io vs) G H G' H' → OutR K (ioA io vs) G' H' out → (if own = true then ∃ p, v = .ref p ∧ H p = none ∧ OwnAt K G' H' p d else RD K G' d v) → Q v H'
    | .exc c x out => ∀ cls dd G' H', CallEnd (ioA io vs) G H G' H' → OutR K (ioA io vs) G' H' out → ExcOk T K G' H' c x cls dd → E cls dd H'
    | .stuck => False
def putMine (e : Env) (i : Nat) (d : D) : Env := match e[i]? with | some (.own _) => e.set i (.own d) | some (.io _) => e.set i (.io d) | _ => e
section
variable {K : Fg} {F : Frm} {σ : L2.St} {H H' G G' : Hp} {e : Env}
/-- an own object has changed, others were made -/
theorem SR.turned (s : SR K F σ H e G) {i : Nat} {a : Addr} {d d' : D} (hm : e[i]?.bind Slot.mine? = some d) (hs : σ[i]? = some (some (.ref a))) (keep : ∀ b o, b ≠ a → H b = some o → H' b = some o)
    (g : LeG G G') (le : LeG G' H') (new : ∀ b o, G' b = some o → G b = some o ∨ H b = none) (own : OwnAt K G' H' a d') : SR K F σ H' (putMine e i d') G' := by
  obtain ⟨a0, hs0, ho, hR, h0⟩ := s.mine hm
  have ea : a0 = a := by
    rw [hs] at hs0
    injection hs0 with z
    injection z with z
    injection z with z
    exact z.symm
  subst ea
  have hi : i < e.length := by
    cases z : e[i]? with
    | none => rw [z] at hm; cases hm
    | some _ => exact (List.getElem?_eq_some_iff.mp z).1
  have ln : (putMine e i d').length = e.length := by
    unfold putMine; split <;> simp
  have at_i : (e[i]? = some (.own d) ∧ (putMine e i d')[i]? = some (.own d')) ∨ (e[i]? = some (.io d) ∧ (putMine e i d')[i]? = some (.io d')) := by
    cases z : e[i]? with
    | none => rw [z] at hm; cases hm
    | some sl =>
      rw [z] at hm
      cases sl with
      | no => cases hm
      | val _ => cases hm
      | own d1 =>
        have : d1 = d := Option.some.inj hm
        subst this
        refine .inl ⟨rfl, ?_⟩
        unfold putMine; rw [z]
        exact List.getElem?_set_self hi
      | io d1 =>
        have : d1 = d := Option.some.inj hm
        subst this
        refine .inr ⟨rfl, ?_⟩
        unfold putMine; rw [z]
        exact List.getElem?_set_self hi
  have off : ∀ {j : Nat}, j ≠ i → (putMine e i d')[j]? = e[j]? := fun {j} hj => by
    unfold putMine; split <;> first | rfl | exact List.getElem?_set_ne (Ne.symm hj)
  have frO : ∀ {b : Addr} {d1 : D}, b ≠ a0 → OwnAt K G H b d1 → OwnAt K G' H' b d1 := fun {b d1} hb o => by
    refine o.mono g ?_ (fun u q => keep b u hb q)
    cases q : G' b with
    | none => rfl
    | some u =>
      rcases new b u q with z | z
      · rw [o.free] at z; cases z
      · obtain ⟨v, hv⟩ := o.there
        rw [hv] at z; cases z
  have mineOff : ∀ {j : Nat} {d1 : D}, ((putMine e i d')[j]?).bind Slot.mine? = some d1 → ∃ d2, (e[j]?).bind Slot.mine? = some d2 := fun {j d1} hj => by
    by_cases z : j = i
    · subst z; exact ⟨d, hm⟩
    · rw [off z] at hj; exact ⟨d1, hj⟩
  refine ⟨le, ln.trans s.len, fun j d1 hj => ?_, fun j d1 hj => ?_, fun j d1 hj => ?_, fun p hp => ?_, fun j k d1 d2 b hjk hj hk => ?_, fun b o hb q => ?_, s.gk.trans g, fun b o q => ?_, fun p hp => ?_⟩
  · have hne : j ≠ i := fun z => by
      subst z
      rcases at_i with ⟨_, z⟩ | ⟨_, z⟩ <;> rw [z] at hj <;> cases hj
    rw [off hne] at hj
    obtain ⟨v, k1, k2⟩ := s.vals j d1 hj
    exact ⟨v, k1, k2.le g⟩
  · by_cases z : j = i
    · subst z
      rcases at_i with ⟨z1, z2⟩ | ⟨_, z2⟩
      · rw [z2] at hj
        have : d' = d1 := by injection hj with hj; injection hj
        subst this
        obtain ⟨b, k1, k2, k3, k4⟩ := s.owns j d z1
        have eb : b = a0 := by
          rw [hs] at k1
          injection k1 with z
          injection z with z
          injection z with z
          exact z.symm
        subst eb
        exact ⟨b, hs, own, k3, k4⟩
      · rw [z2] at hj; cases hj
    · rw [off z] at hj
      obtain ⟨b, k1, k2, k3, k4⟩ := s.owns j d1 hj
      have nb : b ≠ a0 := fun w => by
        subst w
        exact s.dist j i d1 d b z (by rw [hj]; rfl) hm k1 hs
      exact ⟨b, k1, frO nb k2, k3, k4⟩
  · by_cases z : j = i
    · subst z
      rcases at_i with ⟨z1, z2⟩ | ⟨z1, z2⟩
      · rw [z2] at hj; cases hj
      · rw [z2] at hj
        have : d' = d1 := by injection hj with hj; injection hj
        subst this
        obtain ⟨b, k1, k2, k4⟩ := s.iosl j d z1
        have eb : b = a0 := by
          have q := (s.iosv _ k1).1
          simp only at q
          rw [hs] at q
          injection q with z
          injection z with z
          injection z with z
          exact z.symm
        subst eb
        exact ⟨b, k1, own, k4⟩
    · rw [off z] at hj
      obtain ⟨b, k1, k2, k4⟩ := s.iosl j d1 hj
      have nb : b ≠ a0 := fun w => by
        subst w
        exact s.dist j i d1 d b z (by rw [hj]; rfl) hm (s.iosv _ k1).1 hs
      exact ⟨b, k1, frO nb k2, k4⟩
  · obtain ⟨k1, d1, k2⟩ := s.iosv p hp
    refine ⟨k1, ?_⟩
    by_cases z : p.1 = i
    · rw [z] at k2 ⊢
      rcases at_i with ⟨z1, z2⟩ | ⟨z1, z2⟩
      · rw [k2] at z1; cases z1
      · exact ⟨_, z2⟩
    · rw [off z]; exact ⟨d1, k2⟩
  · obtain ⟨e1, w1⟩ := mineOff hj
    obtain ⟨e2, w2⟩ := mineOff hk
    exact s.dist j k e1 e2 b hjk w1 w2
  · have q' := s.keep b o hb q
    refine keep b o (fun z => ?_) q'
    subst z
    rcases h0 with z | z
    · rw [z] at q; cases q
    · exact hb (List.mem_map.mpr ⟨_, z, rfl⟩)
  · rcases new b o q with z | z
    · exact s.fresh b o z
    · refine .inr ?_
      cases y : F.H0 b with
      | none => rfl
      | some u =>
        by_cases hb : b ∈ F.O
        · obtain ⟨p, hp, rfl⟩ := List.mem_map.mp hb
          obtain ⟨h1, d1, h2⟩ := s.iosv p hp
          obtain ⟨b', h3, h4, _⟩ := s.iosl p.1 d1 h2
          have h5 := (s.iosv _ h3).1
          rw [h1] at h5
          have h6 : p.2 = b' := by
            injection h5 with h5
            injection h5 with h5
            injection h5
          obtain ⟨v, hv⟩ := h4.there
          rw [← h6, z] at hv
          cases hv
        · rw [s.keep b u hb y] at z; cases z
  · obtain ⟨k1, k2, k3⟩ := s.res p hp
    refine ⟨keep _ _ (hR p hp) k1, ?_, k3⟩
    cases q : G' p.1 with
    | none => rfl
    | some u =>
      rcases new p.1 u q with z | z
      · rw [k2] at z; cases z
      · rw [k1] at z; cases z
end
/-! ### the arguments at a call -/
/-- the data of the arguments; at io an own object -/
def argN : Nat → List Opd → Env → Option (List D)
  | 0, .inr i :: os, e => (e[i]?.bind Slot.mine?).bind fun d => (plains os).map (d :: ·)
  | n + 1, .inl d :: os, e => (argN n os e).map (d :: ·)
  | _, _, _ => none
def argD : Option Nat → List Opd → Env → Option (List D)
  | none => fun os _ => plains os
  | some n => argN n
def ioSlot : Option Nat → List Opd → Option Nat
  | some j, os => match os[j]? with | some (.inr i) => some i | _ => none
  | none, _ => none
/-- a call of a def -/
def callM (io : Option Nat) (f : List D → FRes) (os : List Opd) : M D := fun e =>
  match argD io os e with
  | some ds =>
    match f ds with
    | .ok d out => .ok d (match ioSlot io os with | some i => putMine e i out | none => e)
    | .exc c x out => .exc c x (match ioSlot io os with | some i => putMine e i out | none => e)
    | .stuck => .stuck
  | none => .stuck
/-- .. that looks at own objects and gives back nothing of them -/
def callS (f : List D → FRes) (os : List Opd) : M D := fun e =>
  match resolves os e with
  | some ds =>
    match f ds with
    | .ok d _ => if flat d = true then .ok d e else .stuck
    | .exc c x _ => if flat x = true then .exc c x e else .stuck
    | .stuck => .stuck
  | none => .stuck
section
variable {K : Fg} {F : Frm} {σ : L2.St} {H H' G G' : Hp} {e : Env}
theorem argN_rel (s : SR K F σ H e G) : ∀ {n : Nat} {os : List Opd} {vs : List V} {ds : List D}, ROs K σ G os vs → argN n os e = some ds →
    ArgsN K G H n ds vs ∧ ∃ i a d, ioSlot (some n) os = some i ∧ ioA (some n) vs = some a ∧ σ[i]? = some (some (.ref a)) ∧ e[i]?.bind Slot.mine? = some d
  | 0, .inr i :: os, v :: vs, ds, .cons a b, h => by
    unfold argN at h
    cases h1 : e[i]?.bind Slot.mine? with
    | none => rw [h1] at h; cases h
    | some d =>
      rw [h1] at h
      cases h2 : plains os with
      | none =>
        rw [show (some d : Option D).bind (fun d => (plains os).map (d :: ·)) = (plains os).map (d :: ·) from rfl, h2] at h
        cases h
      | some ds' =>
        rw [show (some d : Option D).bind (fun d => (plains os).map (d :: ·)) = (plains os).map (d :: ·) from rfl, h2] at h
        cases h
        obtain ⟨ad, k1, k2, _⟩ := s.mine h1
        have a' : σ[i]? = some (some v) := a
        rw [k1] at a'
        have ev : v = .ref ad := by
          injection a' with z
          injection z with z
          exact z.symm
        subst ev
        exact ⟨⟨d, ds', ad, vs, rfl, rfl, k2, plains_rds b h2⟩, i, ad, d, by rfl, by rfl, k1, h1⟩
  | n + 1, .inl d :: os, v :: vs, ds, .cons a b, h => by
    unfold argN at h
    cases h2 : argN n os e with
    | none => rw [h2] at h; cases h
    | some ds' =>
      rw [h2] at h
      cases h
      obtain ⟨k1, i, ad, d1, w1, w2, w3, w4⟩ := argN_rel s b h2
      refine ⟨⟨d, ds', v, vs, rfl, rfl, a, k1⟩, i, ad, d1, ?_, ?_, w3, w4⟩
      · unfold ioSlot at w1 ⊢
        simpa using w1
      · unfold ioA at w2 ⊢
        simpa using w2
  | 0, [], _, _, _, h => by cases h
  | 0, .inl _ :: _, _, _, _, h => by cases h
  | _ + 1, [], _, _, _, h => by cases h
  | _ + 1, .inr _ :: _, _, _, _, h => by cases h
theorem argD_rel (s : SR K F σ H e G) {io : Option Nat} {os : List Opd} {vs : List V} {ds : List D} (r : ROs K σ G os vs) (h : argD io os e = some ds) :
    ArgsR K G H io ds vs ∧ ∀ j, io = some j → ∃ i a d, ioSlot io os = some i ∧ ioA io vs = some a ∧ σ[i]? = some (some (.ref a)) ∧ e[i]?.bind Slot.mine? = some d := by
  cases io with
  | none => exact ⟨plains_rds r h, fun j z => nomatch z⟩
  | some n =>
    obtain ⟨k1, k2⟩ := argN_rel s r h
    exact ⟨k1, fun _ _ => k2⟩
theorem SR.called (s : SR K F σ H e G) {io : Option Nat} {os : List Opd} {vs : List V} {ds : List D} {out : D} (r : ROs K σ G os vs) (h : argD io os e = some ds) (c : CallEnd (ioA io vs) G H G' H') (o : OutR K (ioA io vs) G' H' out) :
    SR K F σ H' (match ioSlot io os with | some i => putMine e i out | none => e) G' := by
  obtain ⟨_, k⟩ := argD_rel s r h
  cases io with
  | none =>
    exact s.grow ⟨fun b u q => c.keep b u (by intro z; cases z) q, c.g, c.le, c.new⟩
  | some j =>
    obtain ⟨i, a, d, w1, w2, w3, w4⟩ := k j rfl
    rw [w1]
    rw [w2] at c o
    exact s.turned w4 w3 (fun b u hb q => c.keep b u (fun z => hb (Option.some.inj z).symm) q) c.g c.le c.new o
mutual
theorem RD.cut {as : List Addr} {G' : Hp} (nt : ∀ b ∈ as, ∀ vs, ¬ Rd G' b (.tup vs)) : ∀ {d : D} {v : V}, flat d = true → RD K G' d v → RD K (fun b => if b ∈ as then none else G' b) d v
  | _, _, _, .non => .non
  | _, _, _, .bl b => .bl b
  | _, _, _, .int i => .int i
  | _, _, _, .str x => .str x
  | _, _, f, .lst _ _ => by cases f
  | _, _, f, .tup (a := a) (xs := xs) sq r => by
    refine .tup ?_ (RDs.cut nt f r)
    rcases sq with q | q
    · refine .inl ?_
      have na : a ∉ as := fun z => nt a z xs q
      rcases q with q | ⟨ob, q⟩
      · exact .inl (by show (if a ∈ as then none else G' a) = _; rw [if_neg na]; exact q)
      · exact .inr ⟨ob, by show (if a ∈ as then none else G' a) = _; rw [if_neg na]; exact q⟩
    · exact .inr q
  | _, _, f, .dK _ _ _ => by cases f
  | _, _, f, .dT _ _ _ => by cases f
  | _, _, f, .ins _ _ _ _ => by cases f
theorem RDs.cut {as : List Addr} {G' : Hp} (nt : ∀ b ∈ as, ∀ vs, ¬ Rd G' b (.tup vs)) : ∀ {ds : List D} {vs : List V}, flats ds = true → RDs K G' ds vs → RDs K (fun b => if b ∈ as then none else G' b) ds vs
  | _, _, _, .nil => .nil
  | _, _, f, .cons a b => by
    rw [flats, Bool.and_eq_true] at f
    exact .cons (RD.cut nt f.1 a) (RDs.cut nt f.2 b)
end
/-- own objects known for a while -/
structure Snap (K : Fg) (σ : L2.St) (G H : Hp) (e : Env) (as : List Addr) : Prop where
  mine : ∀ b ∈ as, ∃ (i : Nat) (d : D), e[i]?.bind Slot.mine? = some d ∧ σ[i]? = some (some (V.ref b)) ∧ OwnAt K G H b d
def snapG (G H : Hp) (as : List Addr) : Hp := fun b => if b ∈ as then H b else G b
theorem snapG_ge (l : LeG G H) (as : List Addr) : LeG G (snapG G H as) := fun b o q => by
  unfold snapG
  by_cases hb : b ∈ as
  · rw [if_pos hb]; exact l b o q
  · rw [if_neg hb]; exact q
theorem snapG_le (l : LeG G H) (as : List Addr) : LeG (snapG G H as) H := fun b o q => by
  unfold snapG at q
  by_cases hb : b ∈ as
  · rw [if_pos hb] at q; exact q
  · rw [if_neg hb] at q; exact l b o q
theorem OwnAt.snap {as : List Addr} {a : Addr} {d : D} (l : LeG G H) (ha : a ∈ as) (o : OwnAt K G H a d) : RD K (snapG G H as) d (.ref a) := by
  have e : snapG G H as a = H a := by unfold snapG; rw [if_pos ha]
  have g := snapG_ge l as
  cases d with
  | list ds =>
    obtain ⟨_, vs, h1, r⟩ := o
    exact .lst (.inl (.inl (e.trans h1))) (r.le g)
  | dict kvs =>
    obtain ⟨_, ⟨ks, vs, ds, h1, n, r, rfl⟩ | ⟨ks, vs, ds, h1, n, r, rfl⟩⟩ := o
    · exact .dK (.inl (e.trans h1)) n (r.le g)
    · exact .dT (.inl (e.trans h1)) n (r.le g)
  | _ => exact o.elim
theorem Snap.rel (s : SR K F σ H e G) : ∀ {os : List Opd} {vs : List V} {ds : List D}, ROs K σ G os vs → resolves os e = some ds → ∃ as, Snap K σ G H e as ∧ RDs K (snapG G H as) ds vs
  | _, _, _, .nil, h => by
    cases h
    exact ⟨[], ⟨fun b hb => by cases hb⟩, .nil⟩
  | o :: os, v :: vs, ds, .cons a b, h => by
    unfold resolves at h
    cases h1 : resolve o e with
    | none => rw [h1] at h; cases h
    | some d =>
      rw [h1] at h
      cases h2 : resolves os e with
      | none => rw [h2] at h; cases h
      | some ds' =>
        rw [h2] at h
        cases h
        obtain ⟨as, sn, rs⟩ := Snap.rel s b h2
        have up : ∀ {a : Addr}, LeG (snapG G H as) (snapG G H (a :: as)) := fun {a} b o q => by
          unfold snapG at q ⊢
          by_cases hb : b ∈ as
          · rw [if_pos hb] at q; rw [if_pos (List.mem_cons_of_mem _ hb)]; exact q
          · rw [if_neg hb] at q
            by_cases hc : b ∈ a :: as
            · rw [if_pos hc]; exact s.le b o q
            · rw [if_neg hc]; exact q
        cases o with
        | inl d' =>
          have z : d' = d := Option.some.inj h1
          subst z
          exact ⟨as, sn, .cons (RD.le (snapG_ge s.le as) a) rs⟩
        | inr i =>
          obtain ⟨ad, k1, k2, _⟩ := s.mine (i := i) (d := d) h1
          have a' : σ[i]? = some (some v) := a
          rw [k1] at a'
          have ev : v = .ref ad := by
            injection a' with z
            injection z with z
            exact z.symm
          subst ev
          refine ⟨ad :: as, ⟨fun b hb => ?_⟩, .cons (k2.snap s.le List.mem_cons_self) (rs.le up)⟩
          rcases List.mem_cons.mp hb with rfl | hb
          · exact ⟨i, d, h1, k1, k2⟩
          · exact sn.mine b hb
/-- behind a look: the own objects are one's own again -/
theorem Snap.back {as : List Addr} (s : SR K F σ H e G) (sn : Snap K σ G H e as) (w : Grow (snapG G H as) H G' H') :
    SR K F σ H' e (fun b => if b ∈ as then none else G' b) ∧ LeG G (fun b => if b ∈ as then none else G' b) ∧ ∀ b ∈ as, ∀ vs, ¬ Rd G' b (.tup vs) := by
  have gas : ∀ b ∈ as, G b = none := fun b hb => let ⟨_, _, _, _, o⟩ := sn.mine b hb; o.free
  have gg : LeG G (fun b => if b ∈ as then none else G' b) := fun b o q => by
    have nb : b ∉ as := fun z => by rw [gas b z] at q; cases q
    show (if b ∈ as then none else G' b) = _
    rw [if_neg nb]
    exact w.g b o (snapG_ge s.le as b o q)
  refine ⟨s.grow ⟨w.h, gg, fun b o q => ?_, fun b o q => ?_⟩, gg, fun b hb vs r => ?_⟩
  · have q' : (if b ∈ as then none else G' b) = some o := q
    by_cases nb : b ∈ as
    · rw [if_pos nb] at q'; cases q'
    · rw [if_neg nb] at q'; exact w.le b o q'
  · have q' : (if b ∈ as then none else G' b) = some o := q
    by_cases nb : b ∈ as
    · rw [if_pos nb] at q'; cases q'
    · rw [if_neg nb] at q'
      rcases w.new b o q' with z | z
      · unfold snapG at z
        rw [if_neg nb] at z
        exact .inl z
      · exact .inr z
  · obtain ⟨i, d, _, _, o⟩ := sn.mine b hb
    obtain ⟨u, hu, nt⟩ : ∃ u, H b = some u ∧ ∀ vs, u ≠ .tup vs ∧ ∀ ob, u ≠ .frz ob (.tup vs) := by
      cases d with
      | list ds => obtain ⟨_, vs, h, _⟩ := o; exact ⟨_, h, fun _ => ⟨by simp, by simp⟩⟩
      | dict kvs => obtain ⟨_, ⟨_, _, _, h, _⟩ | ⟨_, _, _, h, _⟩⟩ := o <;> exact ⟨_, h, fun _ => ⟨by simp, by simp⟩⟩
      | _ => exact o.elim
    have hu' := w.h b u hu
    rcases r with r | ⟨ob, r⟩
    · have := w.le _ _ r
      rw [hu'] at this
      exact (nt vs).1 (Option.some.inj this)
    · have := w.le _ _ r
      rw [hu'] at this
      exact (nt vs).2 ob (Option.some.inj this)
end
/-! ### the calls -/
/-- a def that stands ready: where it is, what it promises -/
structure Def (T : ExcT) (X : Cx) (x : Str) (io : Option Nat) (own : Bool) (f : List D → FRes) : Prop where
  ex : ∃ (fa : Addr) (fd : FuncData) (k : Nat) (ps : List Str), FnOk X.prog X.w X.K X.mg X.base (L2.CX X.prog X.w) k fa fd ps (spOf T X.K io own f) ∧ Room k X.A ∧ X.mg x = some (.ref fa) ∧ PySem.W.keepIn X.K (.ref fa) = true ∧ Binds X.K fd ps []
section
variable {T : ExcT} {X : Cx} {x : Str} {io : Option Nat} {f : List D → FRes} {es : List Expr} {ms : M (List Opd)} {p pos : Pos}
/-- f(..) without arguments, the wish by the slots -/
theorem pe_callS0 {CX : CXT} {k : Nat} {fa : Addr} {fd : FuncData} {ps : List Str} {sp : Sp} {E : L2.St → XK} (F : FnOk X.prog X.w X.K X.mg X.base CX k fa fd ps sp) (hr : Room k X.A) (hg : Gl X x) (hm : X.mg x = some (.ref fa)) (hk : PySem.W.keepIn X.K (.ref fa) = true) (hb : Binds X.K fd ps []) (hx : ∀ σ, PassesAt CX X σ (E σ))
    (hdb : (x == ("__debug__" : Str)) = false) : PE X (.Call (.Name x p) [] [] pos) (tCallS sp E tNil) := by
  refine ⟨fun pins s σ H Q I h => ?_⟩
  refine wpAny_Call_Name_kw (ld_glob I hg hm ?_ hdb)
  exact PySem.W.callWith_K0 I.kIn hk (run_fnS (us := []) F hr hb (hx σ) I .nil h)
theorem pe_callAny {CX : CXT} {k : Nat} {fa : Addr} {fd : FuncData} {ps : List Str} {sp : Sp} {E : L2.St → XK} {t : TA} (F : FnOk X.prog X.w X.K X.mg X.base CX k fa fd ps sp) (hr : Room k X.A) (hg : Gl X x) (hm : X.mg x = some (.ref fa)) (hk : PySem.W.keepIn X.K (.ref fa) = true) (hb : Binds X.K fd ps []) (hx : ∀ σ, PassesAt CX X σ (E σ))
    (ha : PA X es t) (hdb : (x == ("__debug__" : Str)) = false) (hs : es.all notStar = true) (ht : es = [] → ∀ σ H Q, t σ H Q → Q [] H) : PE X (.Call (.Name x p) es [] pos) (tCallS sp E t) := by
  cases es with
  | nil => exact PE.weak (pe_callS0 F hr hg hm hk hb hx hdb) fun σ H Q q => ht rfl σ H _ q
  | cons e es =>
    have h' : notStar e = true ∧ es.all notStar = true := by simpa using hs
    exact pe_callS F hr hg hm hk hb hx ha hdb (star_cons h'.1) (star_none h'.2)
theorem se_call (dn : Def T X x io false f) (ha : SA T X es ms) (hg : Gl X x) (hdb : (x == ("__debug__" : Str)) = false) (hs : es.all notStar = true) (h0 : es = [] → ms = M.pure []) :
    SE T X (.Call (.Name x p) es [] pos) (M.bind ms (callM io f)) := fun F tk => by
  obtain ⟨fa, fd, k, ps, FO, hr, hm, hk, hb⟩ := dn.ex
  refine PE.weak (pe_callAny (E := WE F.W) FO hr hg hm hk hb (fun σ => passAt tk σ) (ha F tk) hdb hs fun z σ H Q q => ?_) fun σ H Q ⟨e, G, s, q⟩ => ?_
  · obtain ⟨e, G, s, q⟩ := q
    rw [h0 z] at q
    exact q [] H G s LeG.refl .nil
  · refine ⟨e, G, s, (Aft.bind q).mono fun vs H1 ⟨os, e1, G1, s1, l1, r1, q1⟩ => ?_⟩
    unfold callM at q1
    cases h1 : argD io os e1 with
    | none => rw [h1] at q1; exact q1.elim
    | some ds =>
      rw [h1] at q1
      obtain ⟨ar, _⟩ := argD_rel s1 r1 h1
      refine ⟨G1, ds, s1.le, ar, ?_⟩
      simp only at q1
      cases h2 : f ds with
      | ok d out =>
        rw [h2] at q1
        exact fun v G' H' c o r => q1 v H' G' (s1.called r1 h1 c o) c.g r
      | exc c x out =>
        rw [h2] at q1
        exact fun cls dd G' H' c o r => q1 cls dd H' G' (s1.called r1 h1 c o) c.g r
      | stuck =>
        rw [h2] at q1
        exact q1.elim
/-- .. that gives a new object -/
theorem sn_call (dn : Def T X x io true f) (ha : SA T X es ms) (hg : Gl X x) (hdb : (x == ("__debug__" : Str)) = false) (hs : es.all notStar = true) (h0 : es = [] → ms = M.pure []) :
    SN T X (.Call (.Name x p) es [] pos) (M.bind ms (callM io f)) := fun F tk => by
  obtain ⟨fa, fd, k, ps, FO, hr, hm, hk, hb⟩ := dn.ex
  refine PE.weak (pe_callAny (E := WE F.W) FO hr hg hm hk hb (fun σ => passAt tk σ) (ha F tk) hdb hs fun z σ H Q q => ?_) fun σ H Q ⟨e, G, s, q⟩ => ?_
  · obtain ⟨e, G, s, q⟩ := q
    rw [h0 z] at q
    exact q [] H G s LeG.refl .nil
  · refine ⟨e, G, s, (AftN.bind q).mono fun vs H1 ⟨os, e1, G1, s1, l1, r1, q1⟩ => ?_⟩
    unfold callM at q1
    cases h1 : argD io os e1 with
    | none => rw [h1] at q1; exact q1.elim
    | some ds =>
      rw [h1] at q1
      obtain ⟨ar, _⟩ := argD_rel s1 r1 h1
      refine ⟨G1, ds, s1.le, ar, ?_⟩
      simp only at q1
      cases h2 : f ds with
      | ok d out =>
        rw [h2] at q1
        intro v G' H' c o r
        rw [if_pos rfl] at r
        obtain ⟨pa, rfl, np, ow⟩ := r
        have s' := s1.called r1 h1 c o
        obtain ⟨ob, hob⟩ := ow.there
        have np0 : F.H0 pa = none := by
          cases z : F.H0 pa with
          | none => rfl
          | some u =>
            by_cases hb : pa ∈ F.O
            · obtain ⟨q', hq, rfl⟩ := List.mem_map.mp hb
              obtain ⟨g1, d1, g2⟩ := s1.iosv q' hq
              obtain ⟨a', g3, g4, _⟩ := s1.iosl q'.1 d1 g2
              have g5 := (s1.iosv _ g3).1
              rw [g1] at g5
              have g6 : q'.2 = a' := by
                injection g5 with g5
                injection g5 with g5
                injection g5
              obtain ⟨v, hv⟩ := g4.there
              rw [← g6, np] at hv
              cases hv
            · rw [s1.keep pa u hb z] at np; cases np
        have nR : ∀ q ∈ F.R, q.1 ≠ pa := fun q hq z => by
          have := (s1.res q hq).1
          rw [z, np] at this; cases this
        -- the new object stands apart from every own one
        have nown : ∀ {i : Nat} {d1 : D} {b : Addr}, (match ioSlot io os with | some i => putMine e1 i out | none => e1)[i]?.bind Slot.mine? = some d1 → σ[i]? = some (some (.ref b)) → pa ≠ b := fun {i d1 b} hi hb z => by
          subst z
          have old : ∃ d2, e1[i]?.bind Slot.mine? = some d2 := by
            cases w : ioSlot io os with
            | none => rw [w] at hi; exact ⟨d1, hi⟩
            | some j =>
              rw [w] at hi
              simp only at hi
              unfold putMine at hi
              by_cases ij : i = j
              · subst ij
                cases y : e1[i]? with
                | none => rw [y] at hi; simp only at hi; rw [y] at hi; exact ⟨d1, hi⟩
                | some sl => cases sl <;> first | exact ⟨_, rfl⟩ | (rw [y] at hi; simp only at hi; rw [y] at hi; cases hi)
              · have e' : (match e1[j]? with | some (.own _) => e1.set j (.own out) | some (.io _) => e1.set j (.io out) | _ => e1)[i]? = e1[i]? := by
                  split <;> first | rfl | exact List.getElem?_set_ne (Ne.symm ij)
                rw [e'] at hi
                exact ⟨d1, hi⟩
          obtain ⟨d2, h2⟩ := old
          obtain ⟨a2, k1, k2, _⟩ := s1.mine h2
          rw [hb] at k1
          have : pa = a2 := by
            injection k1 with k1
            injection k1 with k1
            injection k1
          subst this
          obtain ⟨u, hu⟩ := k2.there
          rw [np] at hu; cases hu
        refine q1 pa ob H' G' nR ⟨s'.le, s'.len, s'.vals, fun i d1 hi => ?_, fun i d1 hi => ?_, s'.iosv, s'.dist, s'.keep, s'.gk, s'.fresh, fun q hq => ?_⟩ c.g ow
        · obtain ⟨b, k1, k2, k3, k4⟩ := s'.owns i d1 hi
          refine ⟨b, k1, k2, k3, fun q hq => ?_⟩
          rcases List.mem_cons.mp hq with rfl | hq
          · exact nown (by rw [hi]; rfl) k1
          · exact k4 q hq
        · obtain ⟨b, k1, k2, k4⟩ := s'.iosl i d1 hi
          refine ⟨b, k1, k2, fun q hq => ?_⟩
          rcases List.mem_cons.mp hq with rfl | hq
          · exact nown (by rw [hi]; rfl) (s'.iosv _ k1).1
          · exact k4 q hq
        · rcases List.mem_cons.mp hq with rfl | hq
          · exact ⟨hob, ow.free, np0⟩
          · exact s'.res q hq
      | exc c x out =>
        rw [h2] at q1
        exact fun cls dd G' H' c o r => q1 cls dd H' G' (s1.called r1 h1 c o) c.g r
      | stuck =>
        rw [h2] at q1
        exact q1.elim
/-- .. that looks at own objects -/
theorem se_look (dn : Def T X x none false f) (ha : SA T X es ms) (hg : Gl X x) (hdb : (x == ("__debug__" : Str)) = false) (hs : es.all notStar = true) (h0 : es = [] → ms = M.pure []) :
    SE T X (.Call (.Name x p) es [] pos) (M.bind ms (callS f)) := fun F tk => by
  obtain ⟨fa, fd, k, ps, FO, hr, hm, hk, hb⟩ := dn.ex
  refine PE.weak (pe_callAny (E := WE F.W) FO hr hg hm hk hb (fun σ => passAt tk σ) (ha F tk) hdb hs fun z σ H Q q => ?_) fun σ H Q ⟨e, G, s, q⟩ => ?_
  · obtain ⟨e, G, s, q⟩ := q
    rw [h0 z] at q
    exact q [] H G s LeG.refl .nil
  · refine ⟨e, G, s, (Aft.bind q).mono fun vs H1 ⟨os, e1, G1, s1, l1, r1, q1⟩ => ?_⟩
    unfold callS at q1
    cases h1 : resolves os e1 with
    | none => rw [h1] at q1; exact q1.elim
    | some ds =>
      rw [h1] at q1
      obtain ⟨as, sn, rs⟩ := Snap.rel s1 r1 h1
      refine ⟨snapG G1 H1 as, ds, snapG_le s1.le as, rs, ?_⟩
      simp only at q1
      have grow : ∀ {G' H'}, CallEnd (ioA none vs) (snapG G1 H1 as) H1 G' H' → Grow (snapG G1 H1 as) H1 G' H' := fun c => ⟨fun b u q => c.keep b u (by intro z; cases z) q, c.g, c.le, c.new⟩
      cases h2 : f ds with
      | ok d out =>
        rw [h2] at q1
        intro v G' H' c o r
        by_cases hf : flat d = true
        · simp only [if_pos hf] at q1
          obtain ⟨s2, g2, nt⟩ := Snap.back s1 sn (grow c)
          exact q1 v H' _ s2 g2 (RD.cut nt hf r)
        · simp only [if_neg hf] at q1
          exact q1.elim
      | exc c x out =>
        rw [h2] at q1
        intro cls dd G' H' c o r
        by_cases hf : flat x = true
        · simp only [if_pos hf] at q1
          obtain ⟨s2, g2, nt⟩ := Snap.back s1 sn (grow c)
          refine q1 cls dd H' _ s2 g2 ?_
          obtain ⟨C, w1, w2, w3⟩ := r
          refine ⟨C, w1, w2, ?_⟩
          cases w : T.attr _ with
          | none => rw [w] at w3; exact w3
          | some n =>
            rw [w] at w3
            obtain ⟨d0, v0, y1, y2, y3⟩ := w3
            exact ⟨d0, v0, y1, y2, RD.cut nt hf y3⟩
        · simp only [if_neg hf] at q1
          exact q1.elim
      | stuck =>
        rw [h2] at q1
        exact q1.elim
end
end Tp
/-! Tp5: operations on values by data. -/
namespace Tp
open PySem PySem.Spec PyProof.Rows L2
/-! ### arithmetic -/
def sm (i : Int) : Bool := decide (i.natAbs < 2 ^ 1000)
def addD : D → D → Option D
  | .int i, .int j => some (.int (i + j))
  | .str x, .str y => if x.length + y.length ≤ sizeLine then some (.str ⟨x.cps ++ y.cps⟩) else none
  | .tuple a, .tuple b => if a.length + b.length ≤ sizeLine then some (.tuple (a ++ b)) else none
  | .list a, .list b => if a.length + b.length ≤ sizeLine then some (.list (a ++ b)) else none
  | _, _ => none
def subD : D → D → Option D
  | .int i, .int j => some (.int (i - j))
  | _, _ => none
def mulI : D → D → Option D
  | .int i, .int j => if sm i && sm j then some (.int (i * j)) else none
  | _, _ => none
def divD : D → D → Option D
  | .int i, .int j => if j ≠ 0 ∧ sm j = true then some (.int (i.fdiv j)) else none
  | _, _ => none
def modD : D → D → Option D
  | .int i, .int j => if j ≠ 0 then some (.int (i.fmod j)) else none
  | _, _ => none
def powD : D → D → Option D
  | .int i, .int j => if 0 ≤ j ∧ j ≤ 100 ∧ i.natAbs < 2 ^ 64 then some (.int (i ^ j.toNat)) else none
  | _, _ => none
def negD : D → Option D
  | .int i => some (.int (-i))
  | _ => none
theorem sm_log {i : Int} (h : sm i = true) : i.natAbs.log2 < 1000 := PySem.Flt.log2_lt_of (by decide) (of_decide_eq_true h)
section
variable {X : Cx}
theorem op_fdivA : OpR X (binaryOp .FloorDiv) (rI (fun _ j => j ≠ 0 ∧ sm j = true) fun i j => .int (i.fdiv j)) := opI fun i j _ _ _ _ _ hc q =>
  floordiv_int hc.1 q (.inl (PyProof.noPylong_of_log2 (Nat.lt_trans (sm_log hc.2) (by decide))))
theorem op_mulA : OpR X (binaryOp .Mult) (rI (fun i j => sm i = true ∧ sm j = true) fun i j => .int (i * j)) := opI fun _ _ _ _ _ _ _ hc q => mul_int q (CMulW.ok (by
  have h1 := sm_log hc.1
  have h2 := sm_log hc.2
  show _ < 1000000
  omega))
end
/-- int in, int out -/
theorem op2I {K : Fg} {C : Int → Int → Prop} {g : Int → Int → Int} {f : D → D → Option D} (hf : ∀ d1 d2 d', f d1 d2 = some d' → ∃ i j, d1 = .int i ∧ d2 = .int j ∧ C i j ∧ d' = .int (g i j)) : Op2 K (rI C fun i j => .int (g i j)) f :=
  fun G H d1 d2 v1 v2 d' Q l r1 r2 e q => by
    obtain ⟨i, j, rfl, rfl, c, rfl⟩ := hf _ _ _ e
    exact ⟨i, j, r1.int, r2.int, c, q _ G H (Grow.refl l) (.int _)⟩
theorem op2_sub {K : Fg} : Op2 K (rI0 fun i j => .int (i - j)) subD := fun G H d1 d2 v1 v2 d' Q l r1 r2 e q => by
  cases d1 <;> cases d2 <;> first | (cases e; done) | skip
  cases e
  exact ⟨_, _, r1.int, r2.int, q _ G H (Grow.refl l) (.int _)⟩
theorem op2_mul {K : Fg} : Op2 K (rI (fun i j => sm i = true ∧ sm j = true) fun i j => .int (i * j)) mulI := op2I fun d1 d2 d' e => by
  cases d1 <;> cases d2 <;> first | (cases e; done) | skip
  rename_i i j
  simp only [mulI] at e
  split at e
  · rename_i h
    cases e
    exact ⟨i, j, rfl, rfl, by simpa using h, rfl⟩
  · cases e
theorem op2_div {K : Fg} : Op2 K (rI (fun _ j => j ≠ 0 ∧ sm j = true) fun i j => .int (i.fdiv j)) divD := op2I fun d1 d2 d' e => by
  cases d1 <;> cases d2 <;> first | (cases e; done) | skip
  rename_i i j
  simp only [divD] at e
  split at e
  · rename_i h
    cases e
    exact ⟨i, j, rfl, rfl, h, rfl⟩
  · cases e
theorem op2_mod {K : Fg} : Op2 K (rI (fun _ j => j ≠ 0) fun i j => .int (i.fmod j)) modD := op2I fun d1 d2 d' e => by
  cases d1 <;> cases d2 <;> first | (cases e; done) | skip
  rename_i i j
  simp only [modD] at e
  split at e
  · rename_i h
    cases e
    exact ⟨i, j, rfl, rfl, h, rfl⟩
  · cases e
theorem op2_pow {K : Fg} : Op2 K (rI CPow fun i j => .int (i ^ j.toNat)) powD := op2I fun d1 d2 d' e => by
  cases d1 <;> cases d2 <;> first | (cases e; done) | skip
  rename_i i j
  simp only [powD] at e
  split at e
  · rename_i h
    cases e
    exact ⟨i, j, rfl, rfl, ⟨h.1, Int.le_trans h.2.1 (by decide), h.2.2⟩, rfl⟩
  · cases e
theorem op1_neg {K : Fg} : Op1 K (rU fun i => .int (-i)) negD := fun G H d v d' Q l r e q => by
  cases d <;> first | (cases e; done) | skip
  cases e
  exact ⟨_, r.int, q _ G H (Grow.refl l) (.int _)⟩
/-! ### + of ints, texts, tuples, lists -/
theorem OpR.or {X : Cx} {f : Value → Value → Sem Value} {r r' : R2} (h : OpR X f r) (h' : OpR X f r') : OpR X f (fun x y H Q => r x y H Q ∨ r' x y H Q) := by
  intro pins s σ H x y v u Q I rx ry q
  rcases q with q | q
  · exact h pins s σ H x y v u Q I rx ry q
  · exact h' pins s σ H x y v u Q I rx ry q
theorem LsK.ok {X : Cx} {pins : List (Addr × Obj)} {σ : L2.St} {H : Hp} {s : Shared} {a : Addr} {xs : List V} (h : LsK X.K H a xs) (I : Inv X pins σ H s) : ∃ (its : List Value) (n : Nat), Vals xs its ∧ s.heap.get? a = some { cls := .type "list", data := .seq its.toArray n } := by
  rcases h with h | ⟨its, n, e, z, r⟩
  · obtain ⟨z, its, n, r, e⟩ := h.ok I.hok
    exact ⟨its, n, r, e⟩
  · exact ⟨its, n, r, I.kIn a _ e⟩
/-- list + list, however they are read -/
def rCatL (K : Fg) : R2 := fun x y H Q => ∃ l b xs zs, x = .ref l ∧ y = .ref b ∧ LsK K H l xs ∧ LsK K H b zs ∧ xs.length + zs.length ≤ sizeLine ∧ ∀ p, H p = none → Q (.ref p) (upd H p (.lst (xs ++ zs)))
theorem op_catL {X : Cx} : OpR X (binaryOp .Add) (rCatL X.K) := by
  intro pins s σ H x y v u Q I rx ry h
  obtain ⟨l, b, xs, zs, rfl, rfl, hH, hB, hz, q⟩ := h
  cases rx
  cases ry
  obtain ⟨its, n, r, e⟩ := hH.ok I
  obtain ⟨its2, n2, r2, e2⟩ := hB.ok I
  have hl := r.length
  have hl2 := r2.length
  refine PySem.P.add_list e e2 ?_ (by rw [List.size_toArray, List.size_toArray]; omega)
  have ea : its.toArray ++ its2.toArray = (its ++ its2).toArray := by simp
  rw [ea]
  exact ⟨.ref _, _, I.lnew (t' := s.toks) (r.append r2) (by rw [List.length_append]; omega), rfl, q _ I.fresh⟩
def rAddA (K : Fg) : R2 := fun x y H Q => rI0 (fun i j => .int (i + j)) x y H Q ∨ (∃ i j, x = .str i ∧ y = .str j ∧ i.length + j.length ≤ sizeLine ∧ Q (.str (i ++ j)) H) ∨ rCatA K x y H Q ∨ rCatL K x y H Q
theorem op_addA {X : Cx} : OpR X (binaryOp .Add) (rAddA X.K) := op_add.or (op_add_str.or (op_catA.or op_catL))
theorem op2_add {K : Fg} : Op2 K (rAddA K) addD := fun G H d1 d2 v1 v2 d' Q l r1 r2 e q => by
  cases d1 <;> cases d2 <;> first | (cases e; done) | skip
  · cases e
    exact .inl ⟨_, _, r1.int, r2.int, q _ G H (Grow.refl l) (.int _)⟩
  · rename_i x y
    simp only [addD] at e
    split at e
    · rename_i h
      cases e
      exact .inr (.inl ⟨x, y, r1.str, r2.str, h, q _ G H (Grow.refl l) (.str _)⟩)
    · cases e
  · rename_i xs ys
    simp only [addD] at e
    split at e
    · rename_i h
      cases e
      obtain ⟨a, vs, rfl, h1, h2⟩ := r1.list l
      obtain ⟨b, us, rfl, h3, h4⟩ := r2.list l
      have e1 := h2.length
      have e2 := h4.length
      refine .inr (.inr (.inr ⟨a, b, vs, us, rfl, rfl, h1, h3, by omega, fun p np => ?_⟩))
      have w := Grow.one l np (.lst (vs ++ us))
      exact q _ _ _ w (.lst (.inl (.inl upd_same)) ((h2.app h4).le w.g))
    · cases e
  · rename_i xs ys
    simp only [addD] at e
    split at e
    · rename_i h
      cases e
      obtain ⟨a, vs, rfl, h1, h2, k1⟩ := r1.tuple l
      obtain ⟨b, us, rfl, h3, h4, k2⟩ := r2.tuple l
      have e1 := h2.length
      have e2 := h4.length
      refine .inr (.inr (.inl ⟨a, b, vs, us, rfl, rfl, h1, h3, by omega, fun z => ?_, fun z1 z2 => ?_, fun z1 z2 p np => ?_⟩))
      · subst z
        cases h2
        exact q _ G H (Grow.refl l) k2
      · subst z2
        cases h4
        rw [List.append_nil] at q
        exact q _ G H (Grow.refl l) k1
      · have w := Grow.one l np (.tup (vs ++ us))
        exact q _ _ _ w (.tup (.inl (.inl upd_same)) ((h2.app h4).le w.g))
    · cases e
/-! ### comparisons -/
theorem Dp.le {K : Fg} {G H : Hp} (l : LeG G H) : ∀ {v : V} {d : D}, Dp K G v d → Dp K H v d := by
  intro v d h
  refine Dp.rec (motive_1 := fun v d _ => Dp K H v d) (motive_2 := fun vs ds _ => DpAll K H vs ds) ?_ ?_ ?_ ?_ ?_ ?_ ?_ ?_ h
  · exact .non
  · exact fun b => .bl b
  · exact fun i => .int i
  · exact fun x => .str x
  · exact fun s _ ih => .lst (SqL.le l s) ih
  · exact fun s _ ih => .tup (SqT.le l s) ih
  · exact .nil
  · exact fun _ _ h1 h2 => .cons h1 h2
mutual
theorem RD.dp {K : Fg} {G : Hp} : ∀ {d : D} {v : V}, PyData.canLay0 d = true → RD K G d v → Dp K G v d
  | _, _, _, .non => .non
  | _, _, _, .bl b => .bl b
  | _, _, _, .int i => .int i
  | _, _, _, .str x => .str x
  | _, _, c, .lst s r => .lst s.sq (RDs.dp (by simpa [PyData.canLay0] using c) r)
  | _, _, c, .tup s r => .tup s (RDs.dp (by simpa [PyData.canLay0] using c) r)
  | _, _, c, .dK _ _ _ => by simp [PyData.canLay0] at c
  | _, _, c, .dT _ _ _ => by simp [PyData.canLay0] at c
  | _, _, c, .ins _ _ _ _ => by simp [PyData.canLay0, instD] at c
theorem RDs.dp {K : Fg} {G : Hp} : ∀ {ds : List D} {vs : List V}, PyData.canLayAll0 ds = true → RDs K G ds vs → DpAll K G vs ds
  | _, _, _, .nil => .nil
  | _, _, c, .cons a b => by
    rw [PyData.canLayAll0, Bool.and_eq_true] at c
    exact .cons (RD.dp c.1 a) (RDs.dp c.2 b)
end
theorem DpAll.le {K : Fg} {G H : Hp} (l : LeG G H) : ∀ {vs : List V} {ds : List D}, DpAll K G vs ds → DpAll K H vs ds
  | _, _, .nil => .nil
  | _, _, .cons a b => .cons (Dp.le l a) (DpAll.le l b)
theorem shaped_lay {d : D} (h : SeqAt.shaped d = true) : PyData.canLay0 d = true := by
  unfold SeqAt.shaped at h
  rw [Bool.and_eq_true] at h
  exact h.1
theorem RB.dp {K : Fg} {G H : Hp} {d : D} {v : V} (l : LeG G H) (c : SeqAt.shaped d = true) (h : RB K G H d v) : Dp K H v d := by
  have c' := shaped_lay c
  rcases h with h | ⟨a, rfl, o⟩
  · exact Dp.le l (RD.dp c' h)
  · cases d with
    | list ds =>
      obtain ⟨_, vs, h1, r⟩ := o
      exact .lst (.inl (.inl h1)) (DpAll.le l (RDs.dp (by simpa [PyData.canLay0] using c') r))
    | dict kvs => simp [PyData.canLay0] at c'
    | _ => exact o.elim
def eqD (d1 d2 : D) : Option D := if SeqAt.shaped d1 = true ∧ SeqAt.shaped d2 = true then some (.bool (PyData.eqv d1 d2)) else none
def neD (d1 d2 : D) : Option D := if SeqAt.shaped d1 = true ∧ SeqAt.shaped d2 = true then some (.bool (!PyData.eqv d1 d2)) else none
def cmpI (p : Int → Int → Bool) : D → D → Option D
  | .int i, .int j => some (.bool (p i j))
  | _, _ => none
def isND (d1 d2 : D) : Option D := match d2 with | .none => some (.bool (match d1 with | .none => true | _ => false)) | _ => none
def notND (d1 d2 : D) : Option D := match d2 with | .none => some (.bool (match d1 with | .none => false | _ => true)) | _ => none
theorem op2_eq {K : Fg} : Op2 K (rEqD K) eqD := fun G H d1 d2 v1 v2 d' Q l r1 r2 e q => by
  simp only [eqD] at e
  split at e
  · rename_i h
    cases e
    exact ⟨d1, d2, r1.dp l h.1, r2.dp l h.2, h.1, h.2, q _ G H (Grow.refl l) (.bl _)⟩
  · cases e
theorem op2_ne {K : Fg} : Op2 K (rNeD K) neD := fun G H d1 d2 v1 v2 d' Q l r1 r2 e q => by
  simp only [neD] at e
  split at e
  · rename_i h
    cases e
    exact ⟨d1, d2, r1.dp l h.1, r2.dp l h.2, h.1, h.2, q _ G H (Grow.refl l) (.bl _)⟩
  · cases e
theorem op2_cmpI {K : Fg} {p : Int → Int → Bool} : Op2 K (rI0 fun i j => .bl (p i j)) (cmpI p) := fun G H d1 d2 v1 v2 d' Q l r1 r2 e q => by
  cases d1 <;> cases d2 <;> first | (cases e; done) | skip
  cases e
  exact ⟨_, _, r1.int, r2.int, q _ G H (Grow.refl l) (.bl _)⟩
theorem RB.non_iff {K : Fg} {G H : Hp} {d : D} {v : V} (h : RB K G H d v) : (v = .non ↔ d = .none) := by
  constructor
  · rintro rfl
    rcases h with h | ⟨a, z, _⟩
    · cases h; rfl
    · cases z
  · rintro rfl
    exact h.none
theorem op2_isN {K : Fg} : Op2 K (fun x y H Q => y = V.non ∧ Q (.bl (decide (x = .non))) H) isND := fun G H d1 d2 v1 v2 d' Q l r1 r2 e q => by
  cases d2 <;> first | (cases e; done) | skip
  refine ⟨r2.none, ?_⟩
  have k := r1.non_iff
  cases d1 <;> (cases e; first | (rw [decide_eq_true (k.mpr rfl)]; exact q _ G H (Grow.refl l) (.bl _)) | (rw [decide_eq_false (fun z => nomatch k.mp z)]; exact q _ G H (Grow.refl l) (.bl _)))
theorem op2_notN {K : Fg} : Op2 K (fun x y H Q => y = V.non ∧ Q (.bl (!decide (x = .non))) H) notND := fun G H d1 d2 v1 v2 d' Q l r1 r2 e q => by
  cases d2 <;> first | (cases e; done) | skip
  refine ⟨r2.none, ?_⟩
  have k := r1.non_iff
  cases d1 <;> (cases e; first | (rw [decide_eq_true (k.mpr rfl)]; exact q _ G H (Grow.refl l) (.bl _)) | (rw [decide_eq_false (fun z => nomatch k.mp z)]; exact q _ G H (Grow.refl l) (.bl _)))
/-- x in y: a list, a tuple -/
def inD (d1 d2 : D) : Option D := match d2 with
  | .list ds => if SeqAt.shaped d1 = true ∧ SeqAt.shaped (.list ds) = true then some (.bool (ds.any fun z => PyData.eqv z d1)) else none
  | .tuple ds => if SeqAt.shaped d1 = true ∧ SeqAt.shaped (.tuple ds) = true then some (.bool (ds.any fun z => PyData.eqv z d1)) else none
  | .str y => match d1 with
    | .str x => match x.cps.toList with | [c] => some (.bool (decide (c ∈ y.cps.toList))) | _ => none
    | _ => none
  | _ => none
def notInD (d1 d2 : D) : Option D := match inD d1 d2 with | some (.bool b) => some (.bool !b) | _ => none
def rInT (K : Fg) : R2 := fun x y H Q => ∃ d ds, Dp K H x d ∧ Dp K H y (.tuple ds) ∧ SeqAt.shaped d = true ∧ SeqAt.shaped (.tuple ds) = true ∧ Q (.bl (ds.any fun z => PyData.eqv z d)) H
def rNotInT (K : Fg) : R2 := fun x y H Q => ∃ d ds, Dp K H x d ∧ Dp K H y (.tuple ds) ∧ SeqAt.shaped d = true ∧ SeqAt.shaped (.tuple ds) = true ∧ Q (.bl (!ds.any fun z => PyData.eqv z d)) H
section
variable {X : Cx}
theorem op_inT (hu : X.A.units + 65 < cLine) : OpR X (compareOp .In) (rInT X.K) := by
  intro pins s σ H x y v u Q I rx ry h
  obtain ⟨d, ds, hd, he, sd, se, q⟩ := h
  obtain ⟨as, r1⟩ := Dp.reads I d x v hd rx
  obtain ⟨bs, r2⟩ := Dp.reads I (.tuple ds) y u he ry
  exact SeqAt.in_tuple_reads r2 r1 (SeqAt.canLay_of_shaped se) (SeqAt.canLay_of_shaped sd) (room_in_shaped sd hu) ⟨.bl _, H, I, rfl, q⟩
theorem op_notInT (hu : X.A.units + 65 < cLine) : OpR X (compareOp .NotIn) (rNotInT X.K) := by
  intro pins s σ H x y v u Q I rx ry h
  obtain ⟨d, ds, hd, he, sd, se, q⟩ := h
  obtain ⟨as, r1⟩ := Dp.reads I d x v hd rx
  obtain ⟨bs, r2⟩ := Dp.reads I (.tuple ds) y u he ry
  exact SeqAt.notIn_tuple_reads r2 r1 (SeqAt.canLay_of_shaped se) (SeqAt.canLay_of_shaped sd) (room_in_shaped sd hu) ⟨.bl _, H, I, rfl, q⟩
def rInA (K : Fg) : R2 := fun x y H Q => rInD K x y H Q ∨ rInT K x y H Q ∨ ∃ (c : Nat) (z : Str), x = .str ⟨#[c]⟩ ∧ y = .str z ∧ Q (.bl (decide (c ∈ z.cps.toList))) H
def rNotInA (K : Fg) : R2 := fun x y H Q => rNotInD K x y H Q ∨ rNotInT K x y H Q ∨ ∃ (c : Nat) (z : Str), x = .str ⟨#[c]⟩ ∧ y = .str z ∧ Q (.bl (!decide (c ∈ z.cps.toList))) H
theorem op_inA (hu : X.A.units + 65 < cLine) : OpR X (compareOp .In) (rInA X.K) := (op_inD hu).or ((op_inT hu).or op_in_sign)
theorem op_notInA (hu : X.A.units + 65 < cLine) : OpR X (compareOp .NotIn) (rNotInA X.K) := (op_notInD hu).or ((op_notInT hu).or op_notIn_sign)
end
theorem inD_cases {d1 d2 d' : D} (e : inD d1 d2 = some d') : ∃ b, d' = .bool b ∧
    ((∃ ds, d2 = .list ds ∧ SeqAt.shaped d1 = true ∧ SeqAt.shaped (.list ds) = true ∧ b = ds.any fun z => PyData.eqv z d1) ∨ (∃ ds, d2 = .tuple ds ∧ SeqAt.shaped d1 = true ∧ SeqAt.shaped (.tuple ds) = true ∧ b = ds.any fun z => PyData.eqv z d1) ∨
      ∃ (c : Nat) (y : Str), d1 = .str ⟨#[c]⟩ ∧ d2 = .str y ∧ b = decide (c ∈ y.cps.toList)) := by
  cases d2 <;> simp only [inD] at e
  case list ds =>
    split at e
    · rename_i h
      cases e
      exact ⟨_, rfl, .inl ⟨ds, rfl, h.1, h.2, rfl⟩⟩
    · cases e
  case tuple ds =>
    split at e
    · rename_i h
      cases e
      exact ⟨_, rfl, .inr (.inl ⟨ds, rfl, h.1, h.2, rfl⟩)⟩
    · cases e
  case str y =>
    cases d1 <;> simp only at e
    case str x =>
      split at e
      · rename_i c hx
        cases e
        refine ⟨_, rfl, .inr (.inr ⟨c, y, ?_, rfl, rfl⟩)⟩
        obtain ⟨cps⟩ := x
        have : cps = #[c] := by
          apply Array.toList_inj.mp
          exact hx
        rw [this]
      · cases e
    all_goals cases e
  all_goals cases e
theorem op2_in {K : Fg} : Op2 K (rInA K) inD := fun G H d1 d2 v1 v2 d' Q l r1 r2 e q => by
  obtain ⟨b, rfl, ⟨ds, rfl, h1, h2, rfl⟩ | ⟨ds, rfl, h1, h2, rfl⟩ | ⟨c, y, rfl, rfl, rfl⟩⟩ := inD_cases e
  · exact .inl ⟨d1, ds, r1.dp l h1, r2.dp l h2, h1, h2, q _ G H (Grow.refl l) (.bl _)⟩
  · exact .inr (.inl ⟨d1, ds, r1.dp l h1, r2.dp l h2, h1, h2, q _ G H (Grow.refl l) (.bl _)⟩)
  · exact .inr (.inr ⟨c, y, r1.str, r2.str, q _ G H (Grow.refl l) (.bl _)⟩)
theorem op2_notIn {K : Fg} : Op2 K (rNotInA K) notInD := fun G H d1 d2 v1 v2 d' Q l r1 r2 e q => by
  simp only [notInD] at e
  split at e
  · rename_i b0 hb
    cases e
    obtain ⟨b, e1, h⟩ := inD_cases hb
    cases e1
    rcases h with ⟨ds, rfl, h1, h2, rfl⟩ | ⟨ds, rfl, h1, h2, rfl⟩ | ⟨c, y, rfl, rfl, rfl⟩
    · exact .inl ⟨d1, ds, r1.dp l h1, r2.dp l h2, h1, h2, q _ G H (Grow.refl l) (.bl _)⟩
    · exact .inr (.inl ⟨d1, ds, r1.dp l h1, r2.dp l h2, h1, h2, q _ G H (Grow.refl l) (.bl _)⟩)
    · exact .inr (.inr ⟨c, y, r1.str, r2.str, q _ G H (Grow.refl l) (.bl _)⟩)
  · cases e
end Tp
/-! Tp6: built-in functions, subscripts, slices. -/
namespace Tp
open PySem PySem.Spec PyProof.Rows L2
def intsOf : List D → Option (List Int)
  | [] => some []
  | .int i :: ds => (intsOf ds).map (i :: ·)
  | _ :: _ => none
def boolsOf : List D → Option (List Bool)
  | [] => some []
  | .bool i :: ds => (boolsOf ds).map (i :: ·)
  | _ :: _ => none
theorem intsOf_vals {K : Fg} {G : Hp} : ∀ {ds : List D} {vs : List V} {ns : List Int}, intsOf ds = some ns → RDs K G ds vs → vs = ns.map V.int
  | [], _, ns, h, .nil => by cases h; rfl
  | .int i :: ds, _, ns, h, .cons a b => by
    rw [intsOf] at h
    cases h1 : intsOf ds with
    | none => rw [h1] at h; cases h
    | some ms =>
      rw [h1] at h
      cases h
      cases a
      rw [intsOf_vals h1 b]
      rfl
theorem boolsOf_vals {K : Fg} {G : Hp} : ∀ {ds : List D} {vs : List V} {ns : List Bool}, boolsOf ds = some ns → RDs K G ds vs → vs = ns.map V.bl
  | [], _, ns, h, .nil => by cases h; rfl
  | .bool i :: ds, _, ns, h, .cons a b => by
    rw [boolsOf] at h
    cases h1 : boolsOf ds with
    | none => rw [h1] at h; cases h
    | some ms =>
      rw [h1] at h
      cases h
      cases a
      rw [boolsOf_vals h1 b]
      rfl
/-! ### the built-ins -/
def maxL (n : Int) (ns : List Int) : Int := ns.foldl max n
def minL (n : Int) (ns : List Int) : Int := ns.foldl min n
def lenD : List D → Option D
  | [.list ds] => some (.int ds.length)
  | [.tuple ds] => some (.int ds.length)
  | [.str x] => if x.length ≤ sizeLine then some (.int x.length) else none
  | _ => none
def absD : List D → Option D
  | [.int i] => some (.int (if i < 0 then -i else i))
  | _ => none
def intD : List D → Option D
  | [.int i] => some (.int i)
  | [.bool b] => some (.int (if b then 1 else 0))
  | _ => none
def strD : List D → Option D
  | [.int i] => if i.natAbs.log2 < 1920 then some (.str (toString i)) else none
  | _ => none
def maxD : List D → Option D
  | [.int i, .int j] => some (.int (if j > i then j else i))
  | [.list ds] => match intsOf ds with | some (n :: ns) => some (.int (maxL n ns)) | _ => none
  | _ => none
def minD : List D → Option D
  | [.int i, .int j] => some (.int (if j < i then j else i))
  | [.list ds] => match intsOf ds with | some (n :: ns) => some (.int (minL n ns)) | _ => none
  | _ => none
def sumD : List D → Option D
  | [.list ds] => (intsOf ds).map fun ns => .int ns.sum
  | _ => none
def allD : List D → Option D
  | [.list ds] => (boolsOf ds).map fun bs => .bool (bs.all id)
  | _ => none
def tupleD : List D → Option D
  | [.list ds] => some (.tuple ds)
  | [.tuple ds] => some (.tuple ds)
  | _ => none
def listD : List D → Option D
  | [.list ds] => some (.list ds)
  | [.tuple ds] => some (.list ds)
  | _ => none
theorem foldl_max_mem : ∀ (ns : List Int) (n : Int), ns.foldl max n = n ∨ ns.foldl max n ∈ ns
  | [], n => .inl rfl
  | m :: ns, n => by
    rw [List.foldl_cons]
    rcases foldl_max_mem ns (max n m) with h | h
    · rw [h]
      by_cases hc : n ≤ m
      · rw [Int.max_eq_right hc]; exact .inr List.mem_cons_self
      · rw [Int.max_eq_left (by omega)]; exact .inl rfl
    · exact .inr (List.mem_cons_of_mem _ h)
theorem foldl_max_le : ∀ (ns : List Int) (n : Int), n ≤ ns.foldl max n ∧ ∀ y ∈ ns, y ≤ ns.foldl max n
  | [], n => ⟨Int.le_refl _, fun y h => by cases h⟩
  | m :: ns, n => by
    rw [List.foldl_cons]
    obtain ⟨h1, h2⟩ := foldl_max_le ns (max n m)
    refine ⟨by omega, fun y hy => ?_⟩
    rcases List.mem_cons.mp hy with rfl | hy
    · omega
    · exact h2 y hy
theorem foldl_min_mem : ∀ (ns : List Int) (n : Int), ns.foldl min n = n ∨ ns.foldl min n ∈ ns
  | [], n => .inl rfl
  | m :: ns, n => by
    rw [List.foldl_cons]
    rcases foldl_min_mem ns (min n m) with h | h
    · rw [h]
      by_cases hc : n ≤ m
      · rw [Int.min_eq_left hc]; exact .inl rfl
      · rw [Int.min_eq_right (by omega)]; exact .inr List.mem_cons_self
    · exact .inr (List.mem_cons_of_mem _ h)
theorem foldl_min_le : ∀ (ns : List Int) (n : Int), ns.foldl min n ≤ n ∧ ∀ y ∈ ns, ns.foldl min n ≤ y
  | [], n => ⟨Int.le_refl _, fun y h => by cases h⟩
  | m :: ns, n => by
    rw [List.foldl_cons]
    obtain ⟨h1, h2⟩ := foldl_min_le ns (min n m)
    refine ⟨by omega, fun y hy => ?_⟩
    rcases List.mem_cons.mp hy with rfl | hy
    · omega
    · exact h2 y hy
theorem CallR.or' {X : Cx} {f : Value} {r r' : List V → Hp → VK → Prop} (h : CallR X f r) (h' : CallR X f r') : CallR X f (fun xs H Q => r xs H Q ∨ r' xs H Q) := h.or h'
theorem RBs.one {K : Fg} {G H : Hp} {d : D} {vs : List V} (h : RBs K G H [d] vs) : ∃ v, vs = [v] ∧ RB K G H d v := by
  cases h with
  | cons a b => cases b; exact ⟨_, rfl, a⟩
theorem RBs.two {K : Fg} {G H : Hp} {d1 d2 : D} {vs : List V} (h : RBs K G H [d1, d2] vs) : ∃ v1 v2, vs = [v1, v2] ∧ RB K G H d1 v1 ∧ RB K G H d2 v2 := by
  cases h with
  | cons a b =>
    obtain ⟨v, rfl, h⟩ := b.one
    exact ⟨_, _, rfl, a, h⟩
section
variable {K : Fg}
def rLenA (K : Fg) : List V → Hp → VK → Prop := fun xs H Q => (∃ p ys, xs = [.ref p] ∧ (SqL K H p ys ∨ SqT K H p ys) ∧ Q (.int ys.length) H) ∨ ∃ z, xs = [.str z] ∧ z.length ≤ sizeLine ∧ Q (.int z.length) H
theorem call_lenA {X : Cx} : CallR X (.builtin "len") (rLenA X.K) := call_len_seq.or call_len_str
theorem opN_len : OpN K (rLenA K) lenD := fun G H ds vs d' Q l r e q => by
  unfold lenD at e
  split at e
  · cases e
    obtain ⟨v, rfl, rr⟩ := r.one
    obtain ⟨a, xs, rfl, h1, h2⟩ := rr.list l
    refine .inl ⟨a, xs, rfl, .inl h1.sq, ?_⟩
    rw [← h2.length]
    exact q _ G H (Grow.refl l) (.int _)
  · cases e
    obtain ⟨v, rfl, rr⟩ := r.one
    obtain ⟨a, xs, rfl, h1, h2, _⟩ := rr.tuple l
    refine .inl ⟨a, xs, rfl, .inr h1, ?_⟩
    rw [← h2.length]
    exact q _ G H (Grow.refl l) (.int _)
  · split at e
    · rename_i h
      cases e
      obtain ⟨v, rfl, rr⟩ := r.one
      exact .inr ⟨_, by rw [rr.str], h, q _ G H (Grow.refl l) (.int _)⟩
    · cases e
  · cases e
theorem opN_abs : OpN K (fun xs H Q => ∃ i, xs = [V.int i] ∧ Q (.int (if i < 0 then -i else i)) H) absD := fun G H ds vs d' Q l r e q => by
  unfold absD at e
  split at e
  · cases e
    obtain ⟨v, rfl, rr⟩ := r.one
    exact ⟨_, by rw [rr.int], q _ G H (Grow.refl l) (.int _)⟩
  · cases e
theorem opN_int : OpN K (fun xs H Q => (∃ i, xs = [V.int i] ∧ Q (.int i) H) ∨ ∃ k, xs = [V.bl k] ∧ Q (.int (if k then 1 else 0)) H) intD := fun G H ds vs d' Q l r e q => by
  unfold intD at e
  split at e
  · cases e
    obtain ⟨v, rfl, rr⟩ := r.one
    exact .inl ⟨_, by rw [rr.int], q _ G H (Grow.refl l) (.int _)⟩
  · cases e
    obtain ⟨v, rfl, rr⟩ := r.one
    exact .inr ⟨_, by rw [rr.bool], q _ G H (Grow.refl l) (.int _)⟩
  · cases e
theorem opN_str : OpN K (fun xs H Q => ∃ i, xs = [V.int i] ∧ i.natAbs.log2 < 1920 ∧ Q (.str (toString i)) H) strD := fun G H ds vs d' Q l r e q => by
  unfold strD at e
  split at e
  · split at e
    · rename_i h
      cases e
      obtain ⟨v, rfl, rr⟩ := r.one
      exact ⟨_, by rw [rr.int], h, q _ G H (Grow.refl l) (.str _)⟩
    · cases e
  · cases e
def rMaxA (K : Fg) : List V → Hp → VK → Prop := fun xs H Q => (∃ i j, xs = [V.int i, .int j] ∧ Q (.int (if j > i then j else i)) H) ∨ rMax K xs H Q
def rMinA (K : Fg) : List V → Hp → VK → Prop := fun xs H Q => (∃ i j, xs = [V.int i, .int j] ∧ Q (.int (if j < i then j else i)) H) ∨ rMin K xs H Q
theorem call_maxA {X : Cx} (hc : X.calm = true) : CallR X (.builtin "max") (rMaxA X.K) := (call_max2 hc).or (cr_max hc)
theorem call_minA {X : Cx} (hc : X.calm = true) : CallR X (.builtin "min") (rMinA X.K) := (call_min2 hc).or (cr_min hc)
theorem opN_max : OpN K (rMaxA K) maxD := fun G H ds vs d' Q l r e q => by
  unfold maxD at e
  split at e
  · cases e
    obtain ⟨v, w, rfl, r1, r2⟩ := r.two
    exact .inl ⟨_, _, by rw [r1.int, r2.int], q _ G H (Grow.refl l) (.int _)⟩
  · split at e
    · rename_i n ns hi
      cases e
      obtain ⟨v, rfl, rr⟩ := r.one
      obtain ⟨a, xs, rfl, h1, h2⟩ := rr.list l
      have ev := intsOf_vals hi h2
      subst ev
      refine .inr ⟨a, _, rfl, h1.sq, by simp, fun m hm hle => ?_⟩
      have e : m = maxL n ns := by
        obtain ⟨k1, k2⟩ := foldl_max_le ns n
        have k3 : maxL n ns ∈ n :: ns := by
          rcases foldl_max_mem ns n with z | z
          · show ns.foldl max n ∈ n :: ns
            rw [z]; exact List.mem_cons_self
          · exact List.mem_cons_of_mem _ z
        have k4 := hle _ k3
        have k5 : m ≤ maxL n ns := by
          rcases List.mem_cons.mp hm with rfl | hm
          · exact k1
          · exact k2 m hm
        omega
      rw [e]
      exact q _ G H (Grow.refl l) (.int _)
    · cases e
  · cases e
theorem opN_min : OpN K (rMinA K) minD := fun G H ds vs d' Q l r e q => by
  unfold minD at e
  split at e
  · cases e
    obtain ⟨v, w, rfl, r1, r2⟩ := r.two
    exact .inl ⟨_, _, by rw [r1.int, r2.int], q _ G H (Grow.refl l) (.int _)⟩
  · split at e
    · rename_i n ns hi
      cases e
      obtain ⟨v, rfl, rr⟩ := r.one
      obtain ⟨a, xs, rfl, h1, h2⟩ := rr.list l
      have ev := intsOf_vals hi h2
      subst ev
      refine .inr ⟨a, _, rfl, h1.sq, by simp, fun m hm hle => ?_⟩
      have e : m = minL n ns := by
        obtain ⟨k1, k2⟩ := foldl_min_le ns n
        have k3 : minL n ns ∈ n :: ns := by
          rcases foldl_min_mem ns n with z | z
          · show ns.foldl min n ∈ n :: ns
            rw [z]; exact List.mem_cons_self
          · exact List.mem_cons_of_mem _ z
        have k4 := hle _ k3
        have k5 : minL n ns ≤ m := by
          rcases List.mem_cons.mp hm with rfl | hm
          · exact k1
          · exact k2 m hm
        omega
      rw [e]
      exact q _ G H (Grow.refl l) (.int _)
    · cases e
  · cases e
theorem opN_sum : OpN K (rSum K) sumD := fun G H ds vs d' Q l r e q => by
  unfold sumD at e
  split at e
  · rename_i ds
    cases hi : intsOf ds with
    | none => rw [hi] at e; cases e
    | some ns =>
      rw [hi] at e
      cases e
      obtain ⟨v, rfl, rr⟩ := r.one
      obtain ⟨a, xs, rfl, h1, h2⟩ := rr.list l
      have ev := intsOf_vals hi h2
      subst ev
      exact ⟨a, _, rfl, h1.sq, q _ G H (Grow.refl l) (.int _)⟩
  · cases e
theorem opN_all : OpN K (rAll K) allD := fun G H ds vs d' Q l r e q => by
  unfold allD at e
  split at e
  · rename_i ds
    cases hi : boolsOf ds with
    | none => rw [hi] at e; cases e
    | some ns =>
      rw [hi] at e
      cases e
      obtain ⟨v, rfl, rr⟩ := r.one
      obtain ⟨a, xs, rfl, h1, h2⟩ := rr.list l
      have ev := boolsOf_vals hi h2
      subst ev
      exact ⟨a, _, rfl, h1.sq, q _ G H (Grow.refl l) (.bl _)⟩
  · cases e
def rTupleOf (K : Fg) : List V → Hp → VK → Prop := fun xs H Q => ∃ p ys, xs = [V.ref p] ∧ ((SqL K H p ys ∧ ∀ l, H l = none → Q (.ref l) (upd H l (.tup ys))) ∨ (SqT K H p ys ∧ Q (.ref p) H))
def rListOf (K : Fg) : List V → Hp → VK → Prop := fun xs H Q => ∃ p ys, xs = [V.ref p] ∧ (SqL K H p ys ∨ SqT K H p ys) ∧ ∀ l, H l = none → Q (.ref l) (upd H l (.lst ys))
theorem opN_tuple : OpN K (rTupleOf K) tupleD := fun G H ds vs d' Q l r e q => by
  unfold tupleD at e
  split at e
  · cases e
    obtain ⟨v, rfl, rr⟩ := r.one
    obtain ⟨a, xs, rfl, h1, h2⟩ := rr.list l
    refine ⟨a, xs, rfl, .inl ⟨h1.sq, fun p np => ?_⟩⟩
    have w := Grow.one l np (.tup xs)
    exact q _ _ _ w (.tup (.inl (.inl upd_same)) (h2.le w.g))
  · cases e
    obtain ⟨v, rfl, rr⟩ := r.one
    obtain ⟨a, xs, rfl, h1, h2, k⟩ := rr.tuple l
    exact ⟨a, xs, rfl, .inr ⟨h1, q _ G H (Grow.refl l) k⟩⟩
  · cases e
theorem opN_list : OpN K (rListOf K) listD := fun G H ds vs d' Q l r e q => by
  unfold listD at e
  split at e
  · cases e
    obtain ⟨v, rfl, rr⟩ := r.one
    obtain ⟨a, xs, rfl, h1, h2⟩ := rr.list l
    refine ⟨a, xs, rfl, .inl h1.sq, fun p np => ?_⟩
    have w := Grow.one l np (.lst xs)
    exact q _ _ _ w (.lst (.inl (.inl upd_same)) (h2.le w.g))
  · cases e
    obtain ⟨v, rfl, rr⟩ := r.one
    obtain ⟨a, xs, rfl, h1, h2, k⟩ := rr.tuple l
    refine ⟨a, xs, rfl, .inr h1, fun p np => ?_⟩
    have w := Grow.one l np (.lst xs)
    exact q _ _ _ w (.lst (.inl (.inl upd_same)) (h2.le w.g))
  · cases e
end
section
variable {T : ExcT} {X : Cx} {x : Str} {id : String} {r : List V → Hp → VK → Prop} {f : List D → Option D} {es : List Expr} {ms : M (List Opd)} {p pos : Pos}
theorem se_callB (hc : CallR X (.builtin id) r) (op : OpN X.K r f) (ha : SA T X es ms) (hg : Gl X x) (hm : X.mg x = none) (hv : bootBuiltins x = some (.builtin id)) (hn : x ≠ "__name__") (hdb : (x == ("__debug__" : Str)) = false)
    (hs : es.all notStar = true) (hne : es ≠ []) : SE T X (.Call (.Name x p) es [] pos) (M.bind ms (doOpN f)) := fun F tk => by
  cases es with
  | nil => exact absurd rfl hne
  | cons e es =>
    have h' : notStar e = true ∧ es.all notStar = true := by simpa using hs
    refine PE.weak (pe_callB hc hg hm hv (ha F tk) hn hdb (star_cons h'.1) (star_none h'.2)) fun σ H Q ⟨e, G, s, q⟩ => ?_
    refine ⟨e, G, s, (Aft.bind q).mono fun vs H1 ⟨os, e1, G1, s1, l1, r1, q1⟩ => ?_⟩
    exact aft_opN op s1 r1 q1
theorem se_callTy (hc : CallR X (.type id) r) (op : OpN X.K r f) (ha : SA T X es ms) (hg : Gl X x) (hm : X.mg x = none) (hv : bootBuiltins x = some (.type id)) (hn : x ≠ "__name__") (hdb : (x == ("__debug__" : Str)) = false)
    (hs : es.all notStar = true) (hne : es ≠ []) : SE T X (.Call (.Name x p) es [] pos) (M.bind ms (doOpN f)) := fun F tk => by
  cases es with
  | nil => exact absurd rfl hne
  | cons e es =>
    have h' : notStar e = true ∧ es.all notStar = true := by simpa using hs
    refine PE.weak (pe_callTy hc hg hm hv (ha F tk) hn hdb (star_cons h'.1) (star_none h'.2)) fun σ H Q ⟨e, G, s, q⟩ => ?_
    refine ⟨e, G, s, (Aft.bind q).mono fun vs H1 ⟨os, e1, G1, s1, l1, r1, q1⟩ => ?_⟩
    exact aft_opN op s1 r1 q1
end
/-! ### subscripts, slices -/
def ixD (d1 d2 : D) : Option D := match d2 with
  | .int i => match d1 with
    | .list ds => atI ds i
    | .tuple ds => atI ds i
    | .str z => if z.length ≤ sizeLine then (atI z.cps.toList i).map fun c => .str ⟨#[c]⟩ else none
    | _ => none
  | _ => none
theorem RDs.atI {K : Fg} {G : Hp} {ds : List D} {vs : List V} {i : Int} {d : D} (r : RDs K G ds vs) (h : L2.atI ds i = some d) : ∃ v, L2.atI vs i = some v ∧ RD K G d v := by
  unfold L2.atI at h ⊢
  rw [← r.length]
  cases z : ixN ds.length i with
  | none => rw [z] at h; cases h
  | some j =>
    rw [z] at h
    exact r.get h
theorem op2_ix {K : Fg} : Op2 K (rIx K) ixD := fun G H d1 d2 v1 v2 d' Q l r1 r2 e q => by
  unfold ixD at e
  split at e
  · rename_i i
    split at e
    · obtain ⟨a, xs, rfl, h1, h2⟩ := r1.list l
      obtain ⟨v, k1, k2⟩ := h2.atI e
      exact .inl ⟨a, xs, i, v, rfl, r2.int, h1.sq, k1, q _ G H (Grow.refl l) k2⟩
    · obtain ⟨a, xs, rfl, h1, h2, _⟩ := r1.tuple l
      obtain ⟨v, k1, k2⟩ := h2.atI e
      exact .inr (.inl ⟨a, xs, i, v, rfl, r2.int, h1, k1, q _ G H (Grow.refl l) k2⟩)
    · rename_i z
      split at e
      · rename_i hz
        cases hc : atI z.cps.toList i with
        | none => rw [hc] at e; cases e
        | some c =>
          rw [hc] at e
          cases e
          exact .inr (.inr ⟨z, i, c, r1.str, r2.int, hz, hc, q _ G H (Grow.refl l) (.str _)⟩)
      · cases e
    · cases e
  · cases e
def notSlice : Expr → Bool
  | .Slice .. => false
  | _ => true
theorem plainIx_of {b : Expr} (h : notSlice b = true) : PlainIx b := fun v u => by
  cases b <;> first | rfl | cases h
theorem se_ix {T : ExcT} {X : Cx} {a b : Expr} {ma mb : M Opd} {pos : Pos} (ha : SO T X a ma) (hb : SO T X b mb) (hs : notSlice b = true) :
    SE T X (.Subscript a b pos) (M.bind ma fun o1 => M.bind mb fun o2 => doOp2 ixD o1 o2) := fun F tk => PE.weak (pe_ix ix_seq (ha F tk) (hb F tk) (plainIx_of hs)) fun σ H Q ⟨e, G, s, q⟩ => by
  refine ⟨e, G, s, (Aft.bind q).mono fun v1 H1 ⟨o1, e1, G1, s1, l1, r1, q1⟩ => ?_⟩
  refine ⟨e1, G1, s1, (Aft.bind q1).mono fun v2 H2 ⟨o2, e2, G2, s2, l2, r2, q2⟩ => ?_⟩
  exact aft_op2 op2_ix s2 (rO.le l2 r1) r2 q2
def cutD (ds : List D) (lo hi : Option Int) : List D := (ds.drop (HT.sIx ds.length 0 lo)).take (HT.sIx ds.length ds.length hi - HT.sIx ds.length 0 lo)
def slcD (d : D) (lo hi : Option Int) : Option D := match d with
  | .list ds => some (.list (cutD ds lo hi))
  | .tuple ds => some (.tuple (cutD ds lo hi))
  | .str z => if z.length ≤ sizeLine then some (.str (cutS z lo hi)) else none
  | _ => none
theorem RDs.cutD {K : Fg} {G : Hp} {ds : List D} {vs : List V} (r : RDs K G ds vs) (lo hi : Option Int) : RDs K G (Tp.cutD ds lo hi) (cutV vs lo hi) := by
  unfold Tp.cutD cutV
  rw [← r.length]
  exact RDs.take _ (RDs.drop _ r)
def rSlAny (K : Fg) : V → Option Int → Option Int → Hp → VK → Prop := fun x lo hi H Q => rSlL K x lo hi H Q ∨ rSlA K x lo hi H Q ∨ rSlS x lo hi H Q
theorem sl_any {X : Cx} : SlR X (rSlAny X.K) := sl_list.or (sl_tupA.or sl_str)
/-- a slice's bound -/
def SP (T : ExcT) (X : Cx) (ex : Option Expr) (m : M (Option Int)) : Prop := ∀ F : Frm, Takes X F.W → PO X ex (tX T X.K F (fun _ _ a v => a = v) m)
theorem PO.weak {X : Cx} {e : Option Expr} {t t' : TO} (h : PO X e t) (w : ∀ σ H Q, t' σ H Q → t σ H Q) : PO X e t' := ⟨fun pins s σ H Q I q => h.run pins s σ H Q I (w σ H Q q)⟩
def asI (d : D) : M (Option Int) := M.of (match d with | .int i => some (some i) | _ => none)
section
variable {T : ExcT} {X : Cx} {a : Expr} {ma : M Opd} {lo hi : Option Expr} {ml mh : M (Option Int)} {pos p2 : Pos}
theorem sp_none : SP T X none (M.pure none) := fun F _ => PO.weak po_none fun σ H Q ⟨e, G, s, q⟩ => q none H G s LeG.refl rfl
theorem sp_some {m : M D} (h : SE T X a m) : SP T X (some a) (M.bind m asI) := fun F tk => PO.weak (po_some (h F tk)) fun σ H Q ⟨e, G, s, q⟩ => by
  refine ⟨e, G, s, (Aft.bind q).mono fun v1 H1 ⟨d, e1, G1, s1, l1, r1, q1⟩ => ?_⟩
  cases d with
  | int i =>
    cases r1
    exact ⟨i, rfl, q1 (some i) H1 G1 s1 LeG.refl rfl⟩
  | _ => exact q1.elim
def doSlc (o : Opd) (lo hi : Option Int) : M D := doOp1 (fun d => slcD d lo hi) o
theorem op1_slc {K : Fg} {lo hi : Option Int} : Op1 K (fun v H Q => rSlAny K v lo hi H Q) (fun d => slcD d lo hi) := fun G H d v d' Q l r e q => by
  cases d <;> simp only [slcD] at e
  case list ds =>
    cases e
    obtain ⟨a, xs, rfl, h1, h2⟩ := r.list l
    refine .inl ⟨a, xs, rfl, h1.sq, fun p np => ?_⟩
    have w := Grow.one l np (.lst (cutV xs lo hi))
    exact q _ _ _ w (.lst (.inl (.inl upd_same)) ((h2.cutD lo hi).le w.g))
  case tuple ds =>
    cases e
    obtain ⟨a, xs, rfl, h1, h2, k⟩ := r.tuple l
    refine .inr (.inl ⟨a, xs, rfl, h1, fun z => ?_, fun z p np => ?_⟩)
    · have e : Tp.cutD ds lo hi = ds := by
        unfold Tp.cutD
        rw [h2.length, z.1, z.2, List.drop_zero, Nat.sub_zero, ← h2.length, List.take_length]
      rw [e] at q
      exact q _ G H (Grow.refl l) k
    · have w := Grow.one l np (.tup (cutV xs lo hi))
      exact q _ _ _ w (.tup (.inl (.inl upd_same)) ((h2.cutD lo hi).le w.g))
  case str z =>
    split at e
    · rename_i hz
      cases e
      exact .inr (.inr ⟨z, r.str, hz, q _ G H (Grow.refl l) (.str _)⟩)
    · cases e
  all_goals cases e
theorem se_slice (ha : SO T X a ma) (hl : SP T X lo ml) (hh : SP T X hi mh) : SE T X (.Subscript a (.Slice lo hi none p2) pos) (M.bind ma fun o => M.bind ml fun l => M.bind mh fun h => doSlc o l h) := fun F tk =>
  PE.weak (pe_slice sl_any (ha F tk) (hl F tk) (hh F tk)) fun σ H Q ⟨e, G, s, q⟩ => by
  refine ⟨e, G, s, (Aft.bind q).mono fun v1 H1 ⟨o1, e1, G1, s1, l1, r1, q1⟩ => ?_⟩
  refine ⟨e1, G1, s1, (Aft.bind (rel := fun _ a v => a = v) q1).mono fun v2 H2 ⟨o2, e2, G2, s2, l2, r2, q2⟩ => ?_⟩
  refine ⟨e2, G2, s2, (Aft.bind (rel := fun _ a v => a = v) q2).mono fun v3 H3 ⟨o3, e3, G3, s3, l3, r3, q3⟩ => ?_⟩
  subst r2 r3
  exact aft_op1 op1_slc s3 (rO.le l3 (rO.le l2 r1)) q3
def revD : D → Option D
  | .list ds => some (.list ds.reverse)
  | _ => none
theorem se_rev {k : Nat} {p1 p3 p4 : Pos} (ha : SO T X a ma) : SE T X (.Subscript a (.Slice none none (some (.UnaryOp .USub (.Constant (.int 1) k p1) p3)) p4) pos) (M.bind ma fun o => doOp1 revD o) := fun F tk =>
  PE.weak (pe_revL (ha F tk)) fun σ H Q ⟨e, G, s, q⟩ => by
  refine ⟨e, G, s, (Aft.bind q).mono fun v1 H1 ⟨o1, e1, G1, s1, l1, r1, q1⟩ => ?_⟩
  refine aft_op1 (r := fun x H1 Q => ∃ a xs, x = V.ref a ∧ SqL X.K H1 a xs ∧ ∀ p, H1 p = none → Q (.ref p) (upd H1 p (.lst xs.reverse))) (fun G H d v d' Q l r e q => ?_) s1 r1 q1
  cases d <;> simp only [revD] at e
  case list ds =>
    cases e
    obtain ⟨a, xs, rfl, h1, h2⟩ := r.list l
    refine ⟨a, xs, rfl, h1.sq, fun p np => ?_⟩
    have w := Grow.one l np (.lst xs.reverse)
    exact q _ _ _ w (.lst (.inl (.inl upd_same)) (h2.rev.le w.g))
  all_goals cases e
end
end Tp
/-! Tp7: what is walked, targets, list comprehensions. -/
namespace Tp
open PySem PySem.Spec PyProof.Rows L2
theorem RD.list_inv {K : Fg} {G : Hp} {ds : List D} {v : V} (h : RD K G (.list ds) v) : ∃ a vs, v = .ref a ∧ LsK K G a vs ∧ RDs K G ds vs := by
  cases h with
  | lst s r => exact ⟨_, _, rfl, s, r⟩
theorem RD.tuple_inv {K : Fg} {G : Hp} {ds : List D} {v : V} (h : RD K G (.tuple ds) v) : ∃ a vs, v = .ref a ∧ SqT K G a vs ∧ RDs K G ds vs := by
  cases h with
  | tup s r => exact ⟨_, _, rfl, s, r⟩
theorem ROs.one {K : Fg} {σ : L2.St} {G : Hp} {o : Opd} {vs : List V} (h : ROs K σ G [o] vs) : ∃ v, vs = [v] ∧ rO K σ G o v := by
  cases h with
  | cons a b => cases b; exact ⟨_, rfl, a⟩
theorem ROs.two {K : Fg} {σ : L2.St} {G : Hp} {o o2 : Opd} {vs : List V} (h : ROs K σ G [o, o2] vs) : ∃ v v2, vs = [v, v2] ∧ rO K σ G o v ∧ rO K σ G o2 v2 := by
  cases h with
  | cons a b =>
    obtain ⟨v, rfl, b1⟩ := b.one
    exact ⟨_, _, rfl, a, b1⟩
/-- what is walked gives these items, while S stands -/
structure Wk (K : Fg) (J : It) (S : Hp → Hp → Prop) (ds : List D) : Prop where
  goes : ∀ (i : Nat) (G H : Hp), i < ds.length → LeG G H → S G H → J.go i H
  stops : ∀ (G H : Hp), LeG G H → S G H → J.stop ds.length H
  yields : ∀ (i : Nat) (G H : Hp) (x : V) (H' : Hp), i < ds.length → LeG G H → S G H → J.yld i H x H' → ∃ d G', ds[i]? = some d ∧ Grow G H G' H' ∧ RD K G' d x
/-- the items, and the slot of the own object that is walked -/
abbrev Src := List D × Option Nat
def srcAt (p : Src) (e : Env) : Prop := match p.2 with | some i => e[i]?.bind Slot.mine? = some (.list p.1) | none => True
def rI' (K : Fg) : L2.St → Hp → Src → It → Prop := fun σ G p J => ∃ S, Wk K J S p.1 ∧
  ∀ (F1 : Frm) (σ1 : L2.St) (H1 : Hp) (e1 : Env) (G1 : Hp), SR K F1 σ1 H1 e1 G1 → LeG G G1 → (∀ i, p.2 = some i → σ1[i]? = σ[i]?) → srcAt p e1 → S G1 H1
theorem PI.weak {X : Cx} {tg e : Expr} {t t' : TI} (h : PI X tg e t) (w : ∀ σ H Q, t' σ H Q → t σ H Q) : PI X tg e t' := ⟨fun pins s σ H Q I q => h.run pins s σ H Q I (w σ H Q q)⟩
def SI (T : ExcT) (X : Cx) (tg ex : Expr) (m : M Src) : Prop := ∀ F : Frm, Takes X F.W → PI X tg ex (tX T X.K F (rI' X.K) m)
section
variable {T : ExcT} {X : Cx} {tg l : Expr}
theorem pi_seq {tl : TE} (hl : PE X l tl) : PI X tg l (fun σ H R => tl σ H fun x H1 => ∃ a, x = .ref a ∧ ((∃ xs, SqL X.K H1 a xs ∧ R (Itl X.K a) H1) ∨ ∃ xs, SqT X.K H1 a xs ∧ R (Itt X.K a) H1)) := by
  refine ⟨fun pins s σ H R I h => ?_⟩
  refine thn (hl.run pins s σ H _ I h) fun v s1 ⟨x, H1, I1, r1, q1⟩ => ?_
  obtain ⟨a, e, q⟩ := q1
  subst e
  cases r1
  rcases q with ⟨xs, hq, q⟩ | ⟨xs, hq, q⟩
  · obtain ⟨its, rv, p, hz⟩ := I1.list hq
    refine wpAny_pyIter_list p.isList ?_
    refine ⟨s1.heap.objs.size, [s1.heap.objs.size], _, _, H1, rfl, I1.kept (t' := s1.toks) fun b o e => Heap.get?_push_of_some _ e, turn_list a _, ⟨_, Heap.get?_push_size _ rfl, rfl, rfl⟩, fun b hb => ?_, q⟩
    have e : b = s1.heap.objs.size := by simpa using hb
    subst e
    exact I1.fpOk (Nat.le_refl _) (I1.hok.fresh (Nat.le_refl _))
  · obtain ⟨its, rv, p, hz⟩ := I1.tuple hq
    refine wpAny_pyIter_tuple (show s1.heap.IsTuple a its.toArray from p) ?_
    refine ⟨s1.heap.objs.size, [s1.heap.objs.size], _, _, H1, rfl, I1.kept (t' := s1.toks) fun b o e => Heap.get?_push_of_some _ e, turn_tuple a _, ⟨_, Heap.get?_push_size _ rfl, rfl, rfl⟩, fun b hb => ?_, q⟩
    have e : b = s1.heap.objs.size := by simpa using hb
    subst e
    exact I1.fpOk (Nat.le_refl _) (I1.hok.fresh (Nat.le_refl _))
/-- a list, a tuple -/
def asSrc (o : Opd) : M Src := fun e => match o with
  | .inl (.list ds) => .ok (ds, none) e
  | .inl (.tuple ds) => .ok (ds, none) e
  | .inr i => match e[i]?.bind Slot.mine? with | some (.list ds) => .ok (ds, some i) e | _ => .stuck
  | _ => .stuck
theorem wk_list {K : Fg} {a : Addr} {ds : List D} {S : Hp → Hp → Prop} (h : ∀ G H, LeG G H → S G H → ∃ vs, SqL K H a vs ∧ RDs K G ds vs) : Wk K (Itl K a) S ds where
  goes := fun i G H hi l s => by
    obtain ⟨vs, h1, h2⟩ := h G H l s
    have : i < vs.length := by rw [← h2.length]; exact hi
    exact ⟨vs, vs[i], h1, List.getElem?_eq_getElem this⟩
  stops := fun G H l s => by
    obtain ⟨vs, h1, h2⟩ := h G H l s
    exact ⟨vs, h1, by rw [h2.length]; exact Nat.le_refl _⟩
  yields := fun i G H x H' hi l s y => by
    obtain ⟨vs, h1, h2⟩ := h G H l s
    obtain ⟨rfl, y2⟩ := y
    obtain ⟨d, k1, k2⟩ := h2.getV (y2 vs h1)
    exact ⟨d, G, k1, Grow.refl l, k2⟩
theorem wk_tup {K : Fg} {a : Addr} {ds : List D} {S : Hp → Hp → Prop} (h : ∀ G H, LeG G H → S G H → ∃ vs, SqT K H a vs ∧ RDs K G ds vs) : Wk K (Itt K a) S ds where
  goes := fun i G H hi l s => by
    obtain ⟨vs, h1, h2⟩ := h G H l s
    have : i < vs.length := by rw [← h2.length]; exact hi
    exact ⟨vs, vs[i], h1, List.getElem?_eq_getElem this⟩
  stops := fun G H l s => by
    obtain ⟨vs, h1, h2⟩ := h G H l s
    exact ⟨vs, h1, by rw [h2.length]; exact Nat.le_refl _⟩
  yields := fun i G H x H' hi l s y => by
    obtain ⟨vs, h1, h2⟩ := h G H l s
    obtain ⟨rfl, y2⟩ := y
    obtain ⟨d, k1, k2⟩ := h2.getV (y2 vs h1)
    exact ⟨d, G, k1, Grow.refl l, k2⟩
theorem si_seq {m : M Opd} (h : SO T X l m) : SI T X tg l (M.bind m asSrc) := fun F tk => PI.weak (pi_seq (h F tk)) fun σ H R ⟨e, G, s, q⟩ => by
  refine ⟨e, G, s, (Aft.bind q).mono fun v H1 ⟨o, e1, G1, s1, l1, r1, q1⟩ => ?_⟩
  cases o with
  | inl d =>
    cases d with
    | list ds =>
        obtain ⟨a, vs, rfl, sq, rs⟩ := RD.list_inv r1
        refine ⟨a, rfl, .inl ⟨vs, (LsK.le s1.le sq).sq, q1 _ H1 G1 s1 LeG.refl ⟨fun G H => LeG G1 G, wk_list fun G H l' s' => ⟨vs, (LsK.le (s'.trans l') sq).sq, rs.le s'⟩, fun _ _ _ _ _ _ g _ _ => g⟩⟩⟩
    | tuple ds =>
        obtain ⟨a, vs, rfl, sq, rs⟩ := RD.tuple_inv r1
        refine ⟨a, rfl, .inr ⟨vs, SqT.le s1.le sq, q1 _ H1 G1 s1 LeG.refl ⟨fun G H => LeG G1 G, wk_tup fun G H l' s' => ⟨vs, SqT.le (s'.trans l') sq, rs.le s'⟩, fun _ _ _ _ _ _ g _ _ => g⟩⟩⟩
    | _ => exact q1.elim
  | inr i =>
    simp only [asSrc] at q1
    cases hm : e1[i]?.bind Slot.mine? with
    | none => rw [hm] at q1; exact q1.elim
    | some d =>
      rw [hm] at q1
      cases d with
      | list ds =>
        obtain ⟨a, k1, k2, _⟩ := s1.mine hm
        have r1' : σ[i]? = some (some v) := r1
        rw [k1] at r1'
        have ev : v = .ref a := by
          injection r1' with z
          injection z with z
          exact z.symm
        subst ev
        obtain ⟨_, vs, h1, h2⟩ := k2
        refine ⟨a, rfl, .inl ⟨vs, .inl (.inl h1), q1 _ H1 G1 s1 LeG.refl ⟨fun G H => OwnAt X.K G H a (.list ds), wk_list fun G H l' s' => ?_, fun F1 σ1 H2 e2 G2 s2 g hσ at_ => ?_⟩⟩⟩
        · obtain ⟨_, vs', k1, k2⟩ := s'
          exact ⟨vs', .inl (.inl k1), k2⟩
        · have hm2 : e2[i]?.bind Slot.mine? = some (.list ds) := at_
          obtain ⟨a2, w1, w2, _⟩ := s2.mine hm2
          rw [hσ i rfl, k1] at w1
          have ea : a = a2 := by
            injection w1 with z
            injection z with z
            injection z
          subst ea
          exact w2
      | _ => exact q1.elim
/-- range(n), range(a, b) -/
def rngs (lo : Int) (n : Nat) : List D := (List.range n).map fun i => .int (lo + (i : Nat))
def asRng (os : List Opd) : M Src := M.of (match os with
  | [.inl (.int j)] => if -(2 ^ 62) ≤ j ∧ j < 2 ^ 62 then some (rngs 0 j.toNat, none) else none
  | [.inl (.int i), .inl (.int j)] => if -(2 ^ 62) ≤ i ∧ i < 2 ^ 62 ∧ -(2 ^ 62) ≤ j ∧ j < 2 ^ 62 then some (rngs i (j - i).toNat, none) else none
  | _ => none)
theorem wk_rng {K : Fg} {lo : Int} {n : Nat} {S : Hp → Hp → Prop} : Wk K (Itr lo n) S (rngs lo n) := by
  have hl : (rngs lo n).length = n := by simp [rngs]
  refine ⟨fun i G H hi l s => by rw [hl] at hi; exact hi, fun G H l s => by rw [hl]; exact Nat.le_refl n, fun i G H x H' hi l s y => ?_⟩
  rw [hl] at hi
  obtain ⟨rfl, rfl⟩ := y
  exact ⟨.int (lo + (i : Nat)), G, by simp [rngs, hi], Grow.refl l, .int _⟩
/-- zip of two lists, of two tuples -/
def zipD (a b : List D) : List D := (a.zip b).map fun p => .tuple [p.1, p.2]
def asZip (os : List Opd) : M Src := M.of (match os with
  | [.inl (.list a), .inl (.list b)] => some (zipD a b, none)
  | [.inl (.tuple a), .inl (.tuple b)] => some (zipD a b, none)
  | _ => none)
theorem zipD_get {a b : List D} {i : Nat} {x y : D} (h1 : a[i]? = some x) (h2 : b[i]? = some y) : (zipD a b)[i]? = some (.tuple [x, y]) := by
  unfold zipD
  rw [List.getElem?_map, show (a.zip b)[i]? = some (x, y) from List.getElem?_zip_eq_some.mpr ⟨h1, h2⟩]
  rfl
theorem wk_zipL {K : Fg} {a b : Addr} {ds es : List D} {S : Hp → Hp → Prop} (h : ∀ G H, LeG G H → S G H → ∃ vs us, SqL K H a vs ∧ RDs K G ds vs ∧ SqL K H b us ∧ RDs K G es us) : Wk K (Itz K a b) S (zipD ds es) := by
  have hl : (zipD ds es).length = min ds.length es.length := by simp [zipD]
  refine ⟨fun i G H hi l s => ?_, fun G H l s => ?_, fun i G H x H' hi l s y => ?_⟩
  · obtain ⟨vs, us, h1, h2, h3, h4⟩ := h G H l s
    have e1 := h2.length
    have e2 := h4.length
    exact ⟨vs, us, vs[i]'(by omega), us[i]'(by omega), h1, h3, List.getElem?_eq_getElem _, List.getElem?_eq_getElem _⟩
  · obtain ⟨vs, us, h1, h2, h3, h4⟩ := h G H l s
    have e1 := h2.length
    have e2 := h4.length
    exact ⟨vs, us, h1, h3, by omega⟩
  · obtain ⟨vs, us, h1, h2, h3, h4⟩ := h G H l s
    obtain ⟨T, x1, y1, rfl, nT, rfl, f1, f2⟩ := y
    obtain ⟨d1, k1, r1⟩ := h2.getV (f1 vs h1)
    obtain ⟨d2, k2, r2⟩ := h4.getV (f2 us h3)
    have w := Grow.one l nT (.tup [x1, y1])
    exact ⟨_, _, zipD_get k1 k2, w, .tup (.inl (.inl upd_same)) (.cons (r1.le w.g) (.cons (r2.le w.g) .nil))⟩
theorem wk_zipT {K : Fg} {a b : Addr} {ds es : List D} {S : Hp → Hp → Prop} (h : ∀ G H, LeG G H → S G H → ∃ vs us, SqT K H a vs ∧ RDs K G ds vs ∧ SqT K H b us ∧ RDs K G es us) : Wk K (RZ.ItzT K a b) S (zipD ds es) := by
  have hl : (zipD ds es).length = min ds.length es.length := by simp [zipD]
  refine ⟨fun i G H hi l s => ?_, fun G H l s => ?_, fun i G H x H' hi l s y => ?_⟩
  · obtain ⟨vs, us, h1, h2, h3, h4⟩ := h G H l s
    have e1 := h2.length
    have e2 := h4.length
    exact ⟨vs, us, vs[i]'(by omega), us[i]'(by omega), h1, h3, List.getElem?_eq_getElem _, List.getElem?_eq_getElem _⟩
  · obtain ⟨vs, us, h1, h2, h3, h4⟩ := h G H l s
    have e1 := h2.length
    have e2 := h4.length
    exact ⟨vs, us, h1, h3, by omega⟩
  · obtain ⟨vs, us, h1, h2, h3, h4⟩ := h G H l s
    obtain ⟨T, x1, y1, rfl, nT, rfl, f1, f2⟩ := y
    obtain ⟨d1, k1, r1⟩ := h2.getV (f1 vs h1)
    obtain ⟨d2, k2, r2⟩ := h4.getV (f2 us h3)
    have w := Grow.one l nT (.tup [x1, y1])
    exact ⟨_, _, zipD_get k1 k2, w, .tup (.inl (.inl upd_same)) (.cons (r1.le w.g) (.cons (r2.le w.g) .nil))⟩
theorem si_zip {a b : Expr} {ms : M (List Opd)} {p pos tpos : Pos} {elts : List Expr} {kk : Nat} (hg : Gl X "zip") (hm : X.mg "zip" = none) (ha : SA T X [a, b] ms) (ns : notStar a = true) (ns2 : notStar b = true) :
    SI T X (.Tuple elts kk tpos) (.Call (.Name "zip" p) [a, b] [] pos) (M.bind ms asZip) := fun F tk => PI.weak (RZ.pi_zipA hg hm (ha F tk) (by rw [star_cons ns, star_cons ns2] <;> rfl) (by rw [star_cons ns2] <;> rfl)) fun σ H R ⟨e, G, s, q⟩ => by
  refine ⟨e, G, s, (Aft.bind q).mono fun vs H1 ⟨os, e1, G1, s1, l1, r1, q1⟩ => ?_⟩
  unfold asZip at q1
  split at q1
  · rename_i da db
    obtain ⟨v, v2, rfl, ra, rb⟩ := r1.two
    obtain ⟨x, xs, rfl, h1, h2⟩ := RD.list_inv (show RD X.K G1 (.list da) v from ra)
    obtain ⟨y, ys, rfl, h3, h4⟩ := RD.list_inv (show RD X.K G1 (.list db) v2 from rb)
    refine ⟨x, y, xs, ys, rfl, .inl ⟨(LsK.le s1.le h1).sq, (LsK.le s1.le h3).sq, q1 _ H1 G1 s1 LeG.refl ⟨fun G H => LeG G1 G, wk_zipL fun G H l' s' => ⟨xs, ys, (LsK.le (s'.trans l') h1).sq, h2.le s', (LsK.le (s'.trans l') h3).sq, h4.le s'⟩, fun _ _ _ _ _ _ g _ _ => g⟩⟩⟩
  · rename_i da db
    obtain ⟨v, v2, rfl, ra, rb⟩ := r1.two
    obtain ⟨x, xs, rfl, h1, h2⟩ := RD.tuple_inv (show RD X.K G1 (.tuple da) v from ra)
    obtain ⟨y, ys, rfl, h3, h4⟩ := RD.tuple_inv (show RD X.K G1 (.tuple db) v2 from rb)
    refine ⟨x, y, xs, ys, rfl, .inr ⟨SqT.le s1.le h1, SqT.le s1.le h3, q1 _ H1 G1 s1 LeG.refl ⟨fun G H => LeG G1 G, wk_zipT fun G H l' s' => ⟨xs, ys, SqT.le (s'.trans l') h1, h2.le s', SqT.le (s'.trans l') h3, h4.le s'⟩, fun _ _ _ _ _ _ g _ _ => g⟩⟩⟩
  · exact q1.elim
theorem si_rng1 {a : Expr} {ms : M (List Opd)} {p pos : Pos} (hg : Gl X "range") (hm : X.mg "range" = none) (ha : SA T X [a] ms) (ns : notStar a = true) :
    SI T X tg (.Call (.Name "range" p) [a] [] pos) (M.bind ms fun os => if os.length = 1 then asRng os else M.stuck) := fun F tk => PI.weak (pi_range1 hg hm (ha F tk) (by rw [star_cons ns] <;> rfl)) fun σ H R ⟨e, G, s, q⟩ => by
  refine ⟨e, G, s, (Aft.bind q).mono fun vs H1 ⟨os, e1, G1, s1, l1, r1, q1⟩ => ?_⟩
  split at q1
  · rename_i hlen
    unfold asRng at q1
    split at q1
    · rename_i j
      split at q1
      · rename_i hj
        obtain ⟨v, rfl, ra⟩ := r1.one
        have ra' : RD X.K G1 (.int j) v := ra
        cases ra'
        exact ⟨j, rfl, hj.1, hj.2, q1 _ H1 G1 s1 LeG.refl ⟨fun _ _ => True, wk_rng, fun _ _ _ _ _ _ _ _ _ => trivial⟩⟩
      · exact q1.elim
    · simp at hlen
    · exact q1.elim
  · exact q1.elim
theorem si_rng2 {a b : Expr} {ms : M (List Opd)} {p pos : Pos} (hg : Gl X "range") (hm : X.mg "range" = none) (ha : SA T X [a, b] ms) (ns : notStar a = true) (ns2 : notStar b = true) :
    SI T X tg (.Call (.Name "range" p) [a, b] [] pos) (M.bind ms fun os => if os.length = 2 then asRng os else M.stuck) := fun F tk => PI.weak (pi_range2 hg hm (ha F tk) (by rw [star_cons ns, star_cons ns2] <;> rfl) (by rw [star_cons ns2] <;> rfl)) fun σ H R ⟨e, G, s, q⟩ => by
  refine ⟨e, G, s, (Aft.bind q).mono fun vs H1 ⟨os, e1, G1, s1, l1, r1, q1⟩ => ?_⟩
  split at q1
  · rename_i hlen
    unfold asRng at q1
    split at q1
    · simp at hlen
    · rename_i i j
      split at q1
      · rename_i hj
        obtain ⟨v, v2, rfl, ra, rb⟩ := r1.two
        have ra' : RD X.K G1 (.int i) v := ra
        have rb' : RD X.K G1 (.int j) v2 := rb
        cases ra'
        cases rb'
        exact ⟨i, j, rfl, hj, q1 _ H1 G1 s1 LeG.refl ⟨fun _ _ => True, wk_rng, fun _ _ _ _ _ _ _ _ _ => trivial⟩⟩
      · exact q1.elim
    · exact q1.elim
  · exact q1.elim
end
/-! ### targets -/
def setV (e : Env) (i : Nat) (d : D) : Option Env := match e[i]? with | none => none | some (.io _) => none | some _ => some (e.set i (.val d))
theorem SR.setv {K : Fg} {F : Frm} {σ : L2.St} {H G : Hp} {e e' : Env} (s : SR K F σ H e G) {i : Nat} {d : D} {v : V} (r : RD K G d v) (h : setV e i d = some e') : SR K F (σ.set i (some v)) H e' G := by
  unfold setV at h
  cases q : e[i]? with
  | none => rw [q] at h; cases h
  | some sl =>
    have nio : ∀ d', sl ≠ .io d' := fun d' z => by subst z; rw [q] at h; cases h
    have he : e' = e.set i (.val d) := by
      rw [q] at h
      cases sl <;> first | exact (Option.some.inj h).symm | exact absurd rfl (nio _)
    subst he
    have hi : i < e.length := (List.getElem?_eq_some_iff.mp q).1
    have hi' : i < σ.length := by rw [← s.len]; exact hi
    have off : ∀ {j : Nat}, j ≠ i → (e.set i (.val d))[j]? = e[j]? := fun {j} hj => List.getElem?_set_ne (Ne.symm hj)
    have offσ : ∀ {j : Nat}, j ≠ i → (σ.set i (some v))[j]? = σ[j]? := fun {j} hj => List.getElem?_set_ne (Ne.symm hj)
    have own : (e.set i (.val d))[i]? = some (.val d) := List.getElem?_set_self hi
    have nm : ∀ {j : Nat} {d' : D}, ((e.set i (.val d))[j]?).bind Slot.mine? = some d' → j ≠ i := fun {j d'} hj z => by subst z; rw [own] at hj; cases hj
    refine ⟨s.le, by rw [List.length_set, List.length_set]; exact s.len, fun j d' hj => ?_, fun j d' hj => ?_, fun j d' hj => ?_, fun p hp => ?_, fun j k d1 d2 b hjk hj hk => ?_, s.keep, s.gk, s.fresh, s.res⟩
    · by_cases z : j = i
      · subst z
        rw [own] at hj
        have : d = d' := by injection hj with hj; injection hj
        subst this
        exact ⟨v, List.getElem?_set_self hi', r⟩
      · rw [off z] at hj
        obtain ⟨w, k1, k2⟩ := s.vals j d' hj
        exact ⟨w, by rw [offσ z]; exact k1, k2⟩
    · have z := nm (j := j) (d' := d') (by rw [hj]; rfl)
      rw [off z] at hj
      obtain ⟨a, k1, k2, k3, k4⟩ := s.owns j d' hj
      exact ⟨a, by rw [offσ z]; exact k1, k2, k3, k4⟩
    · have z := nm (j := j) (d' := d') (by rw [hj]; rfl)
      rw [off z] at hj
      exact s.iosl j d' hj
    · obtain ⟨k1, d', k2⟩ := s.iosv p hp
      have z : p.1 ≠ i := fun z => by rw [z, q] at k2; exact nio d' (Option.some.inj k2)
      exact ⟨by rw [offσ z]; exact k1, d', by rw [off z]; exact k2⟩
    · have z1 := nm hj
      have z2 := nm hk
      rw [off z1] at hj
      rw [off z2] at hk
      rw [offσ z1, offσ z2]
      exact s.dist j k d1 d2 b hjk hj hk
theorem wipe_get {σ : L2.St} {j : Nat} : ∀ {vs : List Nat}, (wipe σ vs)[j]? = if j ∈ vs then σ[j]?.map (fun _ => none) else σ[j]?
  | [] => by simp [wipe]
  | v :: vs => by
    unfold wipe
    have ih := wipe_get (σ := σ) (j := j) (vs := vs)
    by_cases z : j = v
    · subst z
      rw [if_pos List.mem_cons_self]
      by_cases hj : j < σ.length
      · rw [List.getElem?_set_self (by rw [wipe_length]; exact hj), List.getElem?_eq_getElem hj]
        rfl
      · rw [List.getElem?_eq_none (by rw [List.length_set, wipe_length]; omega), List.getElem?_eq_none (by omega)]
        rfl
    · rw [List.getElem?_set_ne (Ne.symm z), ih]
      by_cases hv : j ∈ vs
      · rw [if_pos hv, if_pos (List.mem_cons_of_mem _ hv)]
      · rw [if_neg hv, if_neg (by rw [List.mem_cons, not_or]; exact ⟨z, hv⟩)]
theorem wipe_set {σ : L2.St} {i : Nat} {x : Option V} {vs : List Nat} (h : i ∈ vs) : wipe (σ.set i x) vs = wipe σ vs := by
  apply List.ext_getElem?
  intro j
  rw [wipe_get, wipe_get]
  by_cases z : j = i
  · subst z
    rw [if_pos h, if_pos h]
    by_cases hj : j < σ.length
    · rw [List.getElem?_set_self hj, List.getElem?_eq_getElem hj]; rfl
    · rw [List.getElem?_eq_none (by rw [List.length_set]; omega), List.getElem?_eq_none (by omega)]
  · rw [List.getElem?_set_ne (Ne.symm z)]
theorem wipe_wipe {σ : L2.St} {vs : List Nat} : wipe (wipe σ vs) vs = wipe σ vs := by
  apply List.ext_getElem?
  intro j
  rw [wipe_get]
  by_cases h : j ∈ vs
  · rw [if_pos h, wipe_get, if_pos h]
    cases σ[j]? <;> rfl
  · rw [if_neg h]
/-- the targets' slots take the items -/
def bindAll : List Nat → List D → Env → Option Env
  | [], [], e => some e
  | t :: ts, d :: ds, e => (setV e t d).bind (bindAll ts ds)
  | _, _, _ => none
inductive Tgt where
  | one (i : Nat)
  | many (is : List Nat)
def Tgt.slots : Tgt → List Nat
  | .one i => [i]
  | .many is => is
def Tgt.bind (t : Tgt) (d : D) (e : Env) : Option Env := match t with
  | .one i => setV e i d
  | .many is => match d with | .tuple ds => bindAll is ds e | _ => none
/-- a target stores what bt says -/
def gT (K : Fg) (t : Tgt) : TG := fun v σ H Q => ∃ F d e e' G, SR K F σ H e G ∧ RD K G d v ∧ t.bind d e = some e' ∧
  ∀ σ', SR K F σ' H e' G → (∀ vs, (∀ i ∈ t.slots, i ∈ vs) → wipe σ' vs = wipe σ vs) → Q σ' H
def SG (X : Cx) (tg : Expr) (t : Tgt) : Prop := PG X tg (gT X.K t)
theorem PG.weak {X : Cx} {e : Expr} {t t' : TG} (h : PG X e t) (w : ∀ v σ H Q, t' v σ H Q → t v σ H Q) : PG X e t' := ⟨fun pins s σ H v u Q I r q => h.run pins s σ H v u Q I r (w v σ H Q q)⟩
section
variable {X : Cx} {i : Nat} {x : Str} {pos : Pos}
theorem sg_name (hN : X.N.Nodup) (hi : X.N[i]? = some x) (hx : Loc X.env.scope x) (hf : X.fn x = true ∨ X.env.scope.names.lookup x = some .local) : SG X (.Name x pos) (.one i) := PG.weak (pg_name hN hi hx hf) fun v σ H Q ⟨F, d, e, e', G, s, r, b, q⟩ =>
  q _ (s.setv r b) fun vs hv => wipe_set (hv i (by simp [Tgt.slots]))
/-- names of the def, by their slots -/
inductive SGs (X : Cx) : List Expr → List Nat → Prop
  | nil : SGs X [] []
  | cons {i : Nat} {x : Str} {pos : Pos} {es : List Expr} {is : List Nat} (hi : X.N[i]? = some x) (hx : Loc X.env.scope x) (hf : X.fn x = true ∨ X.env.scope.names.lookup x = some .local) (r : SGs X es is) : SGs X (.Name x pos :: es) (i :: is)
def gAll (X : Cx) (is : List Nat) : TGs := fun vs σ H Q => ∃ F ds e e' G, SR X.K F σ H e G ∧ RDs X.K G ds vs ∧ bindAll is ds e = some e' ∧
  ∀ σ', SR X.K F σ' H e' G → (∀ vs, (∀ i ∈ is, i ∈ vs) → wipe σ' vs = wipe σ vs) → Q σ' H
theorem PGs.weak {X : Cx} {e : List Expr} {t t' : TGs} (h : PGs X e t) (w : ∀ v σ H Q, t' v σ H Q → t v σ H Q) : PGs X e t' := ⟨fun pins s σ H v u Q I r q => h.run pins s σ H v u Q I r (w v σ H Q q)⟩
theorem SGs.pgs (hN : X.N.Nodup) : ∀ {es : List Expr} {is : List Nat}, SGs X es is → PGs X es (gAll X is)
  | _, _, .nil => PGs.weak pgs_nil fun v σ H Q ⟨F, ds, e, e', G, s, r, b, q⟩ => by
    cases ds with
    | nil =>
      cases r
      have z : e = e' := Option.some.inj b
      subst z
      exact ⟨rfl, q σ s fun _ _ => rfl⟩
    | cons d ds => cases b
  | _, _, .cons (i := i) hi hx hf r => PGs.weak (pgs_cons (pg_name hN hi hx hf) (SGs.pgs hN r)) fun v σ H Q ⟨F, ds, e, e', G, s, rr, b, q⟩ => by
    cases ds with
    | nil => cases b
    | cons d ds =>
      unfold bindAll at b
      cases hb : setV e i d with
      | none => rw [hb] at b; cases b
      | some e1 =>
        rw [hb] at b
        cases rr with
        | cons r1 r2 =>
          refine ⟨_, _, rfl, ?_⟩
          refine ⟨F, ds, e1, e', G, s.setv r1 hb, r2, b, fun σ' s' w => q σ' s' fun vs hv => ?_⟩
          rw [w vs fun j hj => hv j (List.mem_cons_of_mem _ hj)]
          exact wipe_set (hv i List.mem_cons_self)
theorem assign_len {env : PySem.Env} : ∀ {es : List Expr} {is : List Nat}, SGs X es is → (assignEach es env).length = is.length ∧ (assignEach es env).findIdx? (·.1) = none
  | _, _, .nil => ⟨rfl, rfl⟩
  | _, _, .cons (x := x) (pos := pos) (es := es) hi hx hf r => by
    obtain ⟨h1, h2⟩ := assign_len (env := env) r
    have e : assignEach (.Name x pos :: es) env = (false, assign (.Name x pos) env) :: assignEach es env := rfl
    rw [e]
    refine ⟨by rw [List.length_cons, List.length_cons, h1], ?_⟩
    rw [List.findIdx?_cons]
    simp [h2]
theorem sg_tup {es : List Expr} {is : List Nat} {k : Nat} (hN : X.N.Nodup) (hc : X.calm = true) (h : SGs X es is) : SG X (.Tuple es k pos) (.many is) := by
  obtain ⟨h1, h2⟩ := assign_len (env := X.env) h
  refine PG.weak (pg_tup (n := is.length) hc (h.pgs hN) h1 h2) fun v σ H Q ⟨F, d, e, e', G, s, r, b, q⟩ => ?_
  cases d <;> first | (cases b; done) | skip
  rename_i ds
  obtain ⟨a, vs, rfl, sq, rs⟩ := RD.tuple_inv r
  · have hl : ∀ {is : List Nat} {ds : List D} {e e' : Env}, bindAll is ds e = some e' → ds.length = is.length := by
      intro is
      induction is with
      | nil => intro ds e e' h; cases ds <;> first | rfl | cases h
      | cons i is ih =>
        intro ds e e' h
        cases ds with
        | nil => cases h
        | cons d ds =>
          unfold bindAll at h
          cases hb : setV e i d with
          | none => rw [hb] at h; cases h
          | some e1 =>
            rw [hb] at h
            rw [List.length_cons, List.length_cons, ih h]
    have b' : bindAll is ds e = some e' := b
    exact ⟨a, vs, rfl, SqT.le s.le sq, by rw [← rs.length]; exact hl b', F, ds, e, e', G, s, rs, b', q⟩
end
/-! ### comprehensions -/
/-- the block's own names are forgotten -/
def wipeE (e : Env) : List Nat → Option Env
  | [] => some e
  | v :: vs => (wipeE e vs).bind fun e' => match e'[v]? with | some (.io _) => none | some _ => some (e'.set v .no) | none => none
/-- .. and are the def's again -/
def backE (e1 e : Env) : List Nat → Env
  | [] => e
  | v :: vs => match e1[v]? with | some (.val d) => (backE e1 e vs).set v (.val d) | _ => backE e1 e vs
def lcLoop (t : Tgt) (own : List Nat) (mc : M Bool) (me : M D) : List D → Env → Option (List D × Env)
  | [], e => some ([], e)
  | d :: ds, e =>
    match t.bind d e with
    | none => none
    | some e3 =>
      match mc e3 with
      | .ok true e4 =>
        match me e4 with
        | .ok v e5 => (wipeE e5 own).bind fun e6 => (lcLoop t own mc me ds e6).map fun p => (v :: p.1, p.2)
        | _ => none
      | .ok false e4 => (wipeE e4 own).bind fun e6 => lcLoop t own mc me ds e6
      | _ => none
def srcOk (p : Src) (own : List Nat) : Bool := match p.2 with | some i => decide (i ∉ own) | none => true
def lcM (mi : M Src) (t : Tgt) (own : List Nat) (mc : M Bool) (me : M D) : M D := M.bind mi fun p e1 =>
  if p.1.length ≤ sizeLine ∧ srcOk p own = true then
    match (wipeE e1 own).bind (lcLoop t own mc me p.1) with
    | some (ds, e2) => .ok (.list ds) (backE e1 e2 own)
    | none => .stuck
  else .stuck
section
variable {K : Fg} {F : Frm} {σ : L2.St} {H G : Hp} {e e' : Env}
/-- a slot is forgotten -/
theorem SR.lose (s : SR K F σ H e G) {i : Nat} (hio : ∀ d, e[i]? ≠ some (.io d)) (x : Option V) : SR K F (σ.set i x) H (e.set i .no) G := by
  have off : ∀ {j : Nat} {sl : Slot}, (e.set i .no)[j]? = some sl → sl ≠ .no → j ≠ i ∧ e[j]? = some sl := fun {j sl} hj hn => by
    by_cases z : j = i
    · subst z
      by_cases hi : j < e.length
      · rw [List.getElem?_set_self hi] at hj; exact absurd (Option.some.inj hj).symm hn
      · rw [List.getElem?_eq_none (by rw [List.length_set]; omega)] at hj; cases hj
    · rw [List.getElem?_set_ne (Ne.symm z)] at hj
      exact ⟨z, hj⟩
  have offσ : ∀ {j : Nat}, j ≠ i → (σ.set i x)[j]? = σ[j]? := fun {j} hj => List.getElem?_set_ne (Ne.symm hj)
  have nm : ∀ {j : Nat} {d' : D}, ((e.set i .no)[j]?).bind Slot.mine? = some d' → j ≠ i ∧ e[j]?.bind Slot.mine? = some d' := fun {j d'} hj => by
    cases q : (e.set i .no)[j]? with
    | none => rw [q] at hj; cases hj
    | some sl =>
      rw [q] at hj
      have hn : sl ≠ .no := fun z => by subst z; cases hj
      obtain ⟨k1, k2⟩ := off q hn
      exact ⟨k1, by rw [k2]; exact hj⟩
  refine ⟨s.le, by rw [List.length_set, List.length_set]; exact s.len, fun j d' hj => ?_, fun j d' hj => ?_, fun j d' hj => ?_, fun p hp => ?_, fun j k d1 d2 b hjk hj hk => ?_, s.keep, s.gk, s.fresh, s.res⟩
  · obtain ⟨z, hj⟩ := off hj (by simp)
    obtain ⟨w, k1, k2⟩ := s.vals j d' hj
    exact ⟨w, by rw [offσ z]; exact k1, k2⟩
  · obtain ⟨z, hj⟩ := off hj (by simp)
    obtain ⟨a, k1, k2, k3, k4⟩ := s.owns j d' hj
    exact ⟨a, by rw [offσ z]; exact k1, k2, k3, k4⟩
  · obtain ⟨z, hj⟩ := off hj (by simp)
    exact s.iosl j d' hj
  · obtain ⟨k1, d', k2⟩ := s.iosv p hp
    have z : p.1 ≠ i := fun z => by rw [z] at k2; exact hio d' k2
    exact ⟨by rw [offσ z]; exact k1, d', by rw [List.getElem?_set_ne (Ne.symm z)]; exact k2⟩
  · obtain ⟨z1, hj⟩ := nm hj
    obtain ⟨z2, hk⟩ := nm hk
    rw [offσ z1, offσ z2]
    exact s.dist j k d1 d2 b hjk hj hk
theorem SR.wiped (s : SR K F σ H e G) : ∀ {vs : List Nat} {e' : Env}, wipeE e vs = some e' → SR K F (wipe σ vs) H e' G
  | [], e', h => by
    have z : e = e' := Option.some.inj h
    subst z
    exact s
  | v :: vs, e', h => by
    unfold wipeE at h
    cases hb : wipeE e vs with
    | none => rw [hb] at h; cases h
    | some e1 =>
      rw [hb] at h
      have ih := SR.wiped s hb
      cases hv : e1[v]? with
      | none =>
        rw [show (some e1 : Option Env).bind (fun e' => match e'[v]? with | some (.io _) => none | some _ => some (e'.set v .no) | none => none) = (match e1[v]? with | some (.io _) => none | some _ => some (e1.set v .no) | none => none) from rfl, hv] at h
        cases h
      | some sl =>
        rw [show (some e1 : Option Env).bind (fun e' => match e'[v]? with | some (.io _) => none | some _ => some (e'.set v .no) | none => none) = (match e1[v]? with | some (.io _) => none | some _ => some (e1.set v .no) | none => none) from rfl, hv] at h
        have z : (∀ d, sl ≠ .io d) ∧ e' = e1.set v .no := by
          cases sl <;> first | exact ⟨fun _ z => by simp at z, (Option.some.inj h).symm⟩ | (cases h; done)
        rw [z.2]
        exact ih.lose (fun d w => by rw [hv] at w; exact z.1 d (Option.some.inj w)) none
theorem wipeE_off : ∀ {vs : List Nat} {e e' : Env} {j : Nat}, wipeE e vs = some e' → j ∉ vs → e'[j]? = e[j]?
  | [], e, e', j, h, _ => by rw [← Option.some.inj h]
  | v :: vs, e, e', j, h, hj => by
    rw [List.mem_cons, not_or] at hj
    unfold wipeE at h
    cases hb : wipeE e vs with
    | none => rw [hb] at h; cases h
    | some e1 =>
      rw [hb] at h
      have ih := wipeE_off hb hj.2
      have h' : (match e1[v]? with | some (.io _) => none | some _ => some (e1.set v .no) | none => none) = some e' := h
      split at h'
      · cases h'
      · cases h'
        rw [List.getElem?_set_ne (Ne.symm hj.1)]
        exact ih
      · cases h'
theorem wipeE_len : ∀ {vs : List Nat} {e e' : Env}, wipeE e vs = some e' → e'.length = e.length
  | [], e, e', h => by rw [← Option.some.inj h]
  | v :: vs, e, e', h => by
    unfold wipeE at h
    cases hb : wipeE e vs with
    | none => rw [hb] at h; cases h
    | some e1 =>
      rw [hb] at h
      have ih := wipeE_len hb
      have h' : (match e1[v]? with | some (.io _) => none | some _ => some (e1.set v .no) | none => none) = some e' := h
      split at h'
      · cases h'
      · cases h'
        rw [List.length_set]
        exact ih
      · cases h'
theorem wipeE_no : ∀ {vs : List Nat} {e e' : Env} {j : Nat}, wipeE e vs = some e' → j ∈ vs → e'[j]? = some .no
  | [], e, e', j, h, hj => by cases hj
  | v :: vs, e, e', j, h, hj => by
    unfold wipeE at h
    cases hb : wipeE e vs with
    | none => rw [hb] at h; cases h
    | some e1 =>
      rw [hb] at h
      have h' : (match e1[v]? with | some (.io _) => none | some _ => some (e1.set v .no) | none => none) = some e' := h
      have hv : v < e1.length ∧ e' = e1.set v .no := by
        split at h'
        · cases h'
        · rename_i hx
          exact ⟨(List.getElem?_eq_some_iff.mp hx).1, (Option.some.inj h').symm⟩
        · cases h'
      rw [hv.2]
      by_cases z : j = v
      · subst z
        exact List.getElem?_set_self hv.1
      · rw [List.getElem?_set_ne (Ne.symm z)]
        rcases List.mem_cons.mp hj with q | q
        · exact absurd q z
        · exact wipeE_no hb q
/-- behind a comprehension: the slots are the def's again -/
theorem SR.back {e1 : Env} {G1 : Hp} (s1 : ∀ (i : Nat) (d : D), e1[i]? = some (Slot.val d) → ∃ v, σ[i]? = some (some v) ∧ RD K G1 d v) (g : LeG G1 G) {own : List Nat} (s : SR K F (wipe σ own) H e G) (hn : ∀ i ∈ own, e[i]? = some Slot.no) :
    SR K F σ H (backE e1 e own) G := by
  -- first the slots themselves, then the values that come back
  have base : ∀ {vs : List Nat} {e : Env}, (∀ i ∈ vs, e[i]? = some .no) → SR K F (wipe σ vs) H e G → SR K F σ H e G := by
    intro vs e hn s
    have nn : ∀ {j : Nat} {sl : Slot}, e[j]? = some sl → sl ≠ .no → j ∉ vs := fun {j sl} hj h z => by rw [hn j z] at hj; exact h (Option.some.inj hj).symm
    have off : ∀ {j : Nat}, j ∉ vs → (wipe σ vs)[j]? = σ[j]? := fun {j} h => by rw [wipe_get, if_neg h]
    have nm : ∀ {j : Nat} {d' : D}, e[j]?.bind Slot.mine? = some d' → j ∉ vs := fun {j d'} hj z => by rw [hn j z] at hj; cases hj
    refine ⟨s.le, by rw [s.len, wipe_length], fun j d' hj => ?_, fun j d' hj => ?_, s.iosl, fun p hp => ?_, fun j k d1 d2 b hjk hj hk => ?_, s.keep, s.gk, s.fresh, s.res⟩
    · obtain ⟨w, k1, k2⟩ := s.vals j d' hj
      exact ⟨w, by rw [← off (nn hj (by simp))]; exact k1, k2⟩
    · obtain ⟨a, k1, k2, k3, k4⟩ := s.owns j d' hj
      exact ⟨a, by rw [← off (nn hj (by simp))]; exact k1, k2, k3, k4⟩
    · obtain ⟨k1, d', k2⟩ := s.iosv p hp
      exact ⟨by rw [← off (nn k2 (by simp))]; exact k1, d', k2⟩
    · have q := s.dist j k d1 d2 b hjk hj hk
      rw [off (nm hj), off (nm hk)] at q
      exact q
  have s0 := base hn s
  have len0 := s0.len
  have noIo : ∀ {vs : List Nat}, (∀ i ∈ vs, i ∈ own) → SR K F σ H (backE e1 e vs) G ∧ (∀ i d, i ∈ own → (backE e1 e vs)[i]? ≠ some (.io d)) := by
    intro vs
    induction vs with
    | nil => exact fun _ => ⟨s0, fun i d hi => by rw [show backE e1 e [] = e from rfl, hn i hi]; simp⟩
    | cons v vs ih =>
      intro hv
      obtain ⟨ih1, ih2⟩ := ih fun i hi => hv i (List.mem_cons_of_mem _ hi)
      unfold backE
      cases q : e1[v]? with
      | none => exact ⟨ih1, ih2⟩
      | some sl =>
        cases sl <;> first | exact ⟨ih1, ih2⟩ | skip
        rename_i d
        obtain ⟨w, k1, k2⟩ := s1 v d q
        have hvl : v < (backE e1 e vs).length := by
          have z : v < σ.length := (List.getElem?_eq_some_iff.mp k1).1
          rw [ih1.len]
          exact z
        have hset : setV (backE e1 e vs) v d = some ((backE e1 e vs).set v (.val d)) := by
          unfold setV
          have hx := List.getElem?_eq_getElem hvl
          rw [hx]
          cases z : (backE e1 e vs)[v] <;> first | rfl | exact absurd (by rw [hx, z]) (ih2 v _ (hv v List.mem_cons_self))
        have st := ih1.setv (k2.le g) hset
        have eσ : σ.set v (some w) = σ := by
          apply List.ext_getElem?
          intro j
          by_cases z : j = v
          · subst z
            rw [List.getElem?_set_self (List.getElem?_eq_some_iff.mp k1).1, k1]
          · rw [List.getElem?_set_ne (Ne.symm z)]
        rw [eσ] at st
        refine ⟨st, fun i d' hi => ?_⟩
        by_cases z : i = v
        · subst z
          show ((backE e1 e vs).set i (.val d))[i]? ≠ _
          rw [List.getElem?_set_self hvl]
          simp
        · show ((backE e1 e vs).set v (.val d))[i]? ≠ _
          rw [List.getElem?_set_ne (Ne.symm z)]
          exact ih2 i d' hi
  exact (noIo fun i hi => hi).1
end
end Tp
/-! Tp8: a list comprehension does what lcM says. -/
namespace Tp
open PySem PySem.Spec PyProof.Rows L2
def noW : WX := fun _ _ _ _ => False
theorem takes_no {X : Cx} : Takes X noW := fun u s' ⟨_, _, _, _, _, _, _, _, _, _, _, _, _, _, _, _, w⟩ => w.elim
theorem SR.wish {K : Fg} {F : Frm} {σ : L2.St} {H G : Hp} {e : Env} (s : SR K F σ H e G) (W : WX) : SR K { F with W := W } σ H e G :=
  ⟨s.le, s.len, s.vals, s.owns, s.iosl, s.iosv, s.dist, s.keep, s.gk, s.fresh, s.res⟩
theorem SR.unwish {K : Fg} {F : Frm} {σ : L2.St} {H G : Hp} {e : Env} {W : WX} (s : SR K { F with W := W } σ H e G) : SR K F σ H e G :=
  ⟨s.le, s.len, s.vals, s.owns, s.iosl, s.iosv, s.dist, s.keep, s.gk, s.fresh, s.res⟩
/-- the tests of a comprehension -/
def SC (T : ExcT) (X : Cx) (ifs : List Expr) (m : M Bool) : Prop := ∀ F : Frm, Takes X F.W → PTs X ifs (tX T X.K F rT m)
theorem PTs.weak {X : Cx} {e : List Expr} {t t' : TT} (h : PTs X e t) (w : ∀ σ H Q, t' σ H Q → t σ H Q) : PTs X e t' := ⟨fun pins s σ H Q I q => h.run pins s σ H Q I (w σ H Q q)⟩
theorem sc_nil {T : ExcT} {X : Cx} : SC T X [] (M.pure true) := fun F tk => PTs.weak pts_nil fun σ H Q ⟨e, G, s, q⟩ => q true H G s LeG.refl rfl
theorem sc_one {T : ExcT} {X : Cx} {c : Expr} {m : M Bool} (h : SB T X c m) : SC T X [c] m := fun F tk => pts_one (h F tk)
/-- without a wish about exceptions -/
def tXn (T : ExcT) (K : Fg) {α β : Type} (rel : L2.St → Hp → α → β → Prop) (m : M α) : L2.St → Hp → (β → Hp → Prop) → Prop := fun σ H Q => ∃ F : Frm, F.W = noW ∧ tX T K F rel m σ H Q
theorem SE.n {T : ExcT} {X : Cx} {ex : Expr} {m : M D} (h : SE T X ex m) : PE X ex (tXn T X.K (rE X.K) m) := ⟨fun pins s σ H Q I ⟨F, hF, q⟩ => (h F (by rw [hF]; exact takes_no)).run pins s σ H Q I q⟩
theorem SC.n {T : ExcT} {X : Cx} {ex : List Expr} {m : M Bool} (h : SC T X ex m) : PTs X ex (tXn T X.K rT m) := ⟨fun pins s σ H Q I ⟨F, hF, q⟩ => (h F (by rw [hF]; exact takes_no)).run pins s σ H Q I q⟩
def PureM {α : Type} (m : M α) : Prop := ∀ e a e', m e = .ok a e' → e' = e
def NoOwn (m : M Src) : Prop := ∀ e p e', m e = .ok p e' → p.2 = none
def SrcM (m : M Src) : Prop := ∀ e p e', m e = .ok p e' → srcAt p e'
theorem setV_off {e e' : Env} {i j : Nat} {d : D} (h : setV e i d = some e') (hj : j ≠ i) : e'[j]? = e[j]? := by
  unfold setV at h
  split at h
  · cases h
  · cases h
  · cases h
    exact List.getElem?_set_ne (Ne.symm hj)
theorem bindAll_off : ∀ {is : List Nat} {ds : List D} {e e' : Env} {j : Nat}, bindAll is ds e = some e' → j ∉ is → e'[j]? = e[j]?
  | [], [], e, e', j, h, _ => by rw [← Option.some.inj h]
  | i :: is, d :: ds, e, e', j, h, hj => by
    rw [List.mem_cons, not_or] at hj
    unfold bindAll at h
    cases hb : setV e i d with
    | none => rw [hb] at h; cases h
    | some e1 =>
      rw [hb] at h
      rw [bindAll_off (show bindAll is ds e1 = some e' from h) hj.2]
      exact setV_off hb hj.1
  | [], _ :: _, e, e', j, h, _ => by cases h
  | _ :: _, [], e, e', j, h, _ => by cases h
theorem Tgt.bind_off {t : Tgt} {d : D} {e e' : Env} {j : Nat} (h : t.bind d e = some e') (hj : j ∉ t.slots) : e'[j]? = e[j]? := by
  cases t with
  | one i => exact setV_off h (by simpa [Tgt.slots] using hj)
  | many is =>
    simp only [Tgt.bind] at h
    split at h
    · exact bindAll_off h hj
    · cases h
section
variable {T : ExcT} {X : Cx} {elt tg iter : Expr} {ifs : List Expr} {scope : Scope} {own : List (Str × Nat)} {pos : Pos} {mi : M Src} {t : Tgt} {mc : M Bool} {me : M D}
/-- what the loop of a comprehension needs -/
theorem lc_read (ht : ∀ i ∈ t.slots, i ∈ own.map (·.2)) (hsm : SrcM mi) (hp : NoOwn mi ∨ (PureM mc ∧ PureM me)) {F : Frm} {σ : L2.St} {H : Hp} {Q : VK} (h : tN T X.K F (lcM mi t (own.map (·.2)) mc me) σ H Q) :
    tLc (tX T X.K F (rI' X.K) mi) (gT X.K t)
      (tXn T X.K rT mc) (tXn T X.K (rE X.K) me) (own.map (·.2)) σ H Q := by
  obtain ⟨e, G, s, q⟩ := h
  refine ⟨e, G, s, ?_⟩
  -- is what is walked an own object?
  have hsrc : ∀ p e', mi e = .ok p e' → (p.2 = none ∨ (PureM mc ∧ PureM me)) ∧ srcAt p e' := fun p e' hm => ⟨hp.imp (fun h => h e p e' hm) id, hsm e p e' hm⟩
  have q0 : Aft T X.K F σ (rI' X.K σ) G (mi e) (fun J H1 => ∃ p e1 G1, ((p.2 = none ∨ (PureM mc ∧ PureM me)) ∧ srcAt p e1) ∧ SR X.K F σ H1 e1 G1 ∧ LeG G G1 ∧ rI' X.K σ G1 p J ∧
      AftN T X.K F σ G1 (if p.1.length ≤ sizeLine ∧ srcOk p (own.map (·.2)) = true then match (wipeE e1 (own.map (·.2))).bind (lcLoop t (own.map (·.2)) mc me p.1) with | some (ds, e2) => .ok (.list ds) (backE e1 e2 (own.map (·.2))) | none => .stuck else .stuck) Q) := by
    unfold lcM M.bind at q
    cases hm : mi e with
    | ok p e1 =>
      rw [hm] at q
      exact fun v H1 G1 s1 l1 r1 => ⟨p, e1, G1, hsrc p e1 hm, s1, l1, r1, q.weak l1⟩
    | exc c x e1 =>
      rw [hm] at q
      exact q
    | stuck =>
      rw [hm] at q
      exact q.elim
  refine q0.mono fun J H1 ⟨p, e1, G1, ⟨hsp, hsa⟩, s1, l1, ⟨S, wk, hS⟩, q1⟩ D nD => ?_
  split at q1
  · rename_i hz
    obtain ⟨hz, hok⟩ := hz
    cases hw : wipeE e1 (own.map (·.2)) with
    | none => rw [hw] at q1; exact q1.elim
    | some e2 =>
      rw [hw] at q1
      cases hl : lcLoop t (own.map (·.2)) mc me p.1 e2 with
      | none =>
        rw [show (some e2 : Option Env).bind (lcLoop t (own.map (·.2)) mc me p.1) = lcLoop t (own.map (·.2)) mc me p.1 e2 from rfl, hl] at q1
        exact q1.elim
      | some res =>
        obtain ⟨L, eF⟩ := res
        rw [show (some e2 : Option Env).bind (lcLoop t (own.map (·.2)) mc me p.1) = lcLoop t (own.map (·.2)) mc me p.1 e2 from rfl, hl] at q1
        have nR : ∀ q ∈ F.R, q.1 ≠ D := fun q hq z => by
          have := (s1.res q hq).1
          rw [z, nD] at this; cases this
        -- the invariant
        let Pv : Nat → Hp → Prop := fun i H => ∃ (acc : List PyData) (accv : List V) (e : Env) (G : Hp), SR X.K ((Frm.mk F.H0 F.G0 F.ios F.R noW).plus D (.lst accv)) (wipe σ (own.map (·.2))) H e G ∧ LeG G1 G ∧ RDs X.K G acc accv ∧
          acc.length ≤ i ∧ (∃ r, lcLoop t (own.map (·.2)) mc me (p.1.drop i) e = some (r, eF) ∧ acc ++ r = L) ∧ (∀ j, p.2 = some j → e[j]?.bind Slot.mine? = some (.list p.1)) ∧ ∀ j ∈ own.map (·.2), e[j]? = some Slot.no
        have srcIn : ∀ j, p.2 = some j → j ∉ own.map (·.2) := fun j hj => by
          unfold srcOk at hok
          rw [hj] at hok
          exact of_decide_eq_true hok
        have at1 : ∀ j, p.2 = some j → e1[j]?.bind Slot.mine? = some (.list p.1) → e2[j]?.bind Slot.mine? = some (.list p.1) := fun j hj h => by
          rw [wipeE_off hw (srcIn j hj)]; exact h
        have hSat : ∀ {F1 : Frm} {H : Hp} {e : Env} {G : Hp}, SR X.K F1 (wipe σ (own.map (·.2))) H e G → LeG G1 G → (∀ j, p.2 = some j → e[j]?.bind Slot.mine? = some (.list p.1)) → S G H := fun {F1 H e G} s l hm => by
          refine hS F1 _ H e G s l (fun j hj => by rw [wipe_get, if_neg (srcIn j hj)]) ?_
          unfold srcAt
          cases hj : p.2 with
          | none => trivial
          | some j => exact hm j hj
        -- whether the own object that is walked is there to begin with
        have h0 : ∀ j, p.2 = some j → e1[j]?.bind Slot.mine? = some (.list p.1) := fun j hj => by
          unfold srcAt at hsa
          rw [hj] at hsa
          exact hsa
        · have sD := (s1.wish noW).made (o := .lst []) nD
          have sD2 := sD.wiped hw
          have gD : G1 D = none := by
            cases z : G1 D with
            | none => rfl
            | some u => rw [s1.le D u z] at nD; cases nD
          refine ⟨fun i m H => m = p.1.length - i ∧ i ≤ p.1.length ∧ Pv i H, ⟨p.1.length, by simp, Nat.zero_le _, [], [], e2, G1, sD2, LeG.refl, .nil, Nat.le_refl _, ⟨L, by simpa using hl, rfl⟩, fun j hj => at1 j hj (h0 j hj), fun j hj => wipeE_no hw hj⟩, ?_⟩
          rintro i m H ⟨rfl, hi, acc, accv, e, G, sr, lg, rd, ha, ⟨r, hr, hL⟩, hmine, hno⟩
          by_cases hlt : i < p.1.length
          · refine .inr ⟨wk.goes i G H hlt sr.le (hSat sr lg hmine), Pv (i + 1), fun H' p' => ⟨p.1.length - (i + 1), by omega, rfl, hlt, p'⟩, fun x H' y => ?_⟩
            obtain ⟨d, Gx, hd, gr, rdx⟩ := wk.yields i G H x H' hlt sr.le (hSat sr lg hmine) y
            have hdrop : p.1.drop i = d :: p.1.drop (i + 1) := by
              obtain ⟨h1, h2⟩ := List.getElem?_eq_some_iff.mp hd
              rw [← h2]
              exact List.drop_eq_getElem_cons h1
            rw [hdrop] at hr
            unfold lcLoop at hr
            cases hb : t.bind d e with
            | none => rw [hb] at hr; cases hr
            | some e3 =>
              rw [hb] at hr
              simp only at hr
              refine ⟨_, d, e, e3, Gx, sr.grow gr, rdx, hb, fun σ2 s2 wp => ⟨?_, ?_⟩⟩
              · have := wp (own.map (·.2)) ht
                rw [this, wipe_wipe]
              · have wσ : wipe σ2 (own.map (·.2)) = wipe σ (own.map (·.2)) := by rw [wp (own.map (·.2)) ht, wipe_wipe]
                have m3 : ∀ j, p.2 = some j → e3[j]?.bind Slot.mine? = some (.list p.1) := fun j hj => by
                  rw [Tgt.bind_off hb fun z => srcIn j hj (ht j z)]
                  exact hmine j hj
                have hr' := hr
                refine ⟨_, rfl, e3, Gx, s2, ?_⟩
                cases hc : mc e3 with
                | stuck => rw [hc] at hr; cases hr
                | exc c x e4 => rw [hc] at hr; cases hr
                | ok b e4 =>
                  rw [hc] at hr
                  intro b' H3 G3 s3 l3 eb
                  have eb' : b = b' := eb
                  subst eb'
                  have m4 : ∀ j, p.2 = some j → e4[j]?.bind Slot.mine? = some (.list p.1) := fun j hj => by
                    rcases hsp with z | ⟨z, _⟩
                    · rw [z] at hj; cases hj
                    · rw [z _ _ _ hc]; exact m3 j hj
                  cases b with
                  | false =>
                    simp only at hr
                    rw [if_neg (by simp)]
                    cases hw4 : wipeE e4 (own.map (·.2)) with
                    | none => rw [hw4] at hr; cases hr
                    | some e6 =>
                      rw [hw4] at hr
                      have s6 := s3.wiped hw4
                      rw [wσ] at s6
                      exact ⟨acc, accv, e6, G3, s6, lg.trans (gr.g.trans l3), rd.le (gr.g.trans l3), Nat.le_succ_of_le ha, ⟨r, hr, hL⟩, fun j hj => by rw [wipeE_off hw4 (srcIn j hj)]; exact m4 j hj, fun j hj => wipeE_no hw4 hj⟩
                  | true =>
                    simp only at hr
                    rw [if_pos rfl]
                    refine ⟨_, rfl, e4, G3, s3, ?_⟩
                    cases hv : me e4 with
                    | stuck => rw [hv] at hr; cases hr
                    | exc c x e5 => rw [hv] at hr; cases hr
                    | ok dv e5 =>
                      rw [hv] at hr
                      simp only at hr
                      intro yv H4 G4 s4 l4 rdv
                      have m5 : ∀ j, p.2 = some j → e5[j]?.bind Slot.mine? = some (.list p.1) := fun j hj => by
                        rcases hsp with z | ⟨_, z⟩
                        · rw [z] at hj; cases hj
                        · rw [z _ _ _ hv]; exact m4 j hj
                      cases hw5 : wipeE e5 (own.map (·.2)) with
                      | none => rw [hw5] at hr; cases hr
                      | some e6 =>
                        rw [hw5] at hr
                        cases hr2 : lcLoop t (own.map (·.2)) mc me (p.1.drop (i + 1)) e6 with
                        | none =>
                          rw [show (some e6 : Option Env).bind (fun e6 => (lcLoop t (own.map (·.2)) mc me (p.1.drop (i + 1)) e6).map fun p => (dv :: p.1, p.2)) = (lcLoop t (own.map (·.2)) mc me (p.1.drop (i + 1)) e6).map (fun p => (dv :: p.1, p.2)) from rfl, hr2] at hr
                          cases hr
                        | some r2 =>
                          obtain ⟨r2, ef2⟩ := r2
                          rw [show (some e6 : Option Env).bind (fun e6 => (lcLoop t (own.map (·.2)) mc me (p.1.drop (i + 1)) e6).map fun p => (dv :: p.1, p.2)) = (lcLoop t (own.map (·.2)) mc me (p.1.drop (i + 1)) e6).map (fun p => (dv :: p.1, p.2)) from rfl, hr2] at hr
                          cases hr
                          have hD := (s4.res (D, .lst accv) List.mem_cons_self).1
                          refine ⟨accv, hD, by rw [← rd.length]; omega, ?_⟩
                          have s5 := SR.remade (o' := .lst (accv ++ [yv])) s4 nR
                          have s6 := s5.wiped hw5
                          rw [wσ] at s6
                          exact ⟨acc ++ [dv], accv ++ [yv], e6, G4, s6, lg.trans (gr.g.trans (l3.trans l4)), (rd.le (gr.g.trans (l3.trans l4))).app (.cons rdv .nil), by rw [List.length_append]; simp only [List.length_singleton]; omega,
                            ⟨r2, hr2, by rw [List.append_assoc]; exact hL⟩, fun j hj => by rw [wipeE_off hw5 (srcIn j hj)]; exact m5 j hj, fun j hj => wipeE_no hw5 hj⟩
          · have ei : i = p.1.length := by omega
            subst ei
            refine .inl ⟨wk.stops G H sr.le (hSat sr lg hmine), ?_⟩
            rw [List.drop_length] at hr
            unfold lcLoop at hr
            cases hr
            rw [List.append_nil] at hL
            subst hL
            have sb := SR.back (e1 := e1) s1.vals lg sr hno
            exact q1 D (.lst accv) H G nR (SR.unwish (W := noW) (F := F.plus D (.lst accv)) sb) lg ⟨(sr.res (D, .lst accv) List.mem_cons_self).2.1, accv, (sr.res (D, .lst accv) List.mem_cons_self).1, rd⟩
  · exact q1.elim
/-- the judgements of a block -/
structure BlkS (T : ExcT) (X : Cx) (scope : Scope) (elt tg : Expr) (ifs : List Expr) (t : Tgt) (mc : M Bool) (me : M D) : Prop where
  g : ∀ (s : Shared) (H : Hp) (C : Addr) (cl : List (Str × Addr)) (fp : List Addr), SG (X.blk s H scope (compEnvC scope cl C X.env) fp) tg t
  c : ∀ (s : Shared) (H : Hp) (C : Addr) (cl : List (Str × Addr)) (fp : List Addr), SC T (X.blk s H scope (compEnvC scope cl C X.env) fp) ifs mc
  e : ∀ (s : Shared) (H : Hp) (C : Addr) (cl : List (Str × Addr)) (fp : List Addr), SE T (X.blk s H scope (compEnvC scope cl C X.env) fp) elt me
def notSet : Expr → Bool
  | .Set .. => false
  | _ => true
theorem notSet_iter {e : Expr} {env : PySem.Env} (h : notSet e = true) : ∀ x, foldedSetIterable e env x = pure x := fun x => by
  cases e <;> first | rfl | cases h
theorem sn_lc (hc : X.calm = true) (hN : X.N.Nodup) (hi : SI T X tg iter mi) (hb : BlkS T X scope elt tg ifs t mc me) (ok : BlkOk X.N X.env.scope scope own) (ht : ∀ i ∈ t.slots, i ∈ own.map (·.2)) (hsm : SrcM mi) (hp : NoOwn mi ∨ (PureM mc ∧ PureM me)) (hs : notSet iter = true) :
    SN T X (.ListComp elt [⟨tg, iter, ifs, 0⟩] scope pos) (lcM mi t (own.map (·.2)) mc me) := fun F tk =>
  PE.weak (pe_lc (g := gT X.K t) (tt := tXn T X.K rT mc) (te := tXn T X.K (rE X.K) me) hc hN (hi F tk) ok (fun s H C cl fp => hb.g s H C cl fp) (fun s H C cl fp => (hb.c s H C cl fp).n) (fun s H C cl fp => (hb.e s H C cl fp).n) (notSet_iter hs)) fun σ H Q q => lc_read ht hsm hp q
end
end Tp
/-! Tp9: statements. -/
namespace Tp
open PySem PySem.Spec PyProof.Rows L2
inductive Out where
  | nx (e : Env)
  | rt (d : D) (e : Env)
  | bk (e : Env)
  | ct (e : Env)
  | exc (c : Nat) (x : D) (e : Env)
  | stuck
abbrev SM := Env → Out
/-- what an outcome of a statement promises; own: what is handed back is a new object -/
def AftS (T : ExcT) (K : Fg) (own : Bool) (F : Frm) (G : Hp) (o : Out) (D : Ends) : Prop :=
  match o with
  | .nx e => ∀ σ H' G', SR K F σ H' e G' → LeG G G' → D.nx σ H'
  | .bk e => ∀ σ H' G', SR K F σ H' e G' → LeG G G' → D.bk σ H'
  | .ct e => ∀ σ H' G', SR K F σ H' e G' → LeG G G' → D.ct σ H'
  | .rt d e => if own = true then ∀ p o σ H' G', (∀ q ∈ F.R, q.1 ≠ p) → SR K (F.plus p o) σ H' e G' → LeG G G' → OwnAt K G' H' p d → D.rt (.ref p) H' else ∀ v σ H' G', SR K F σ H' e G' → LeG G G' → RD K G' d v → D.rt v H'
  | .exc c x e => ∀ cls dd σ H' G', SR K F σ H' e G' → LeG G G' → ExcOk T K G' H' c x cls dd → F.W cls dd σ H'
  | .stuck => False
def tS (T : ExcT) (K : Fg) (own : Bool) (F : Frm) (m : SM) : TS := fun D σ H => ∃ e G, SR K F σ H e G ∧ AftS T K own F G (m e) D
def SS (T : ExcT) (X : Cx) (own : Bool) (st : Stmt) (m : SM) : Prop := ∀ F : Frm, Takes X F.W → PS X st (tS T X.K own F m)
def SSs (T : ExcT) (X : Cx) (own : Bool) (st : List Stmt) (m : SM) : Prop := ∀ F : Frm, Takes X F.W → PSs X st (tS T X.K own F m)
def seqM (a b : SM) : SM := fun e => match a e with | .nx e' => b e' | o => o
def nextM : SM := .nx
section
variable {T : ExcT} {K : Fg} {own : Bool} {F : Frm} {G G' : Hp} {D D' : Ends}
theorem AftS.weak {o : Out} (h : AftS T K own F G o D) (l : LeG G G') : AftS T K own F G' o D := by
  cases o with
  | nx e => exact fun σ H1 G1 s l1 => h σ H1 G1 s (l.trans l1)
  | bk e => exact fun σ H1 G1 s l1 => h σ H1 G1 s (l.trans l1)
  | ct e => exact fun σ H1 G1 s l1 => h σ H1 G1 s (l.trans l1)
  | rt d e =>
    cases own with
    | true => exact fun p o σ H1 G1 n s l1 r => h p o σ H1 G1 n s (l.trans l1) r
    | false => exact fun v σ H1 G1 s l1 r => h v σ H1 G1 s (l.trans l1) r
  | exc c x e => exact fun cls dd σ H1 G1 s l1 r => h cls dd σ H1 G1 s (l.trans l1) r
  | stuck => exact h.elim
/-- the ends may differ where the outcome is none of theirs -/
theorem AftS.ends {o : Out} (h : AftS T K own F G o D) (hn : ∀ e, o = .nx e → ∀ σ H G', SR K F σ H e G' → LeG G G' → D.nx σ H → D'.nx σ H) (hr : ∀ v H, D.rt v H → D'.rt v H) (hb : ∀ σ H, D.bk σ H → D'.bk σ H) (hc : ∀ σ H, D.ct σ H → D'.ct σ H) : AftS T K own F G o D' := by
  cases o with
  | nx e => exact fun σ H1 G1 s l1 => hn e rfl σ H1 G1 s l1 (h σ H1 G1 s l1)
  | bk e => exact fun σ H1 G1 s l1 => hb σ H1 (h σ H1 G1 s l1)
  | ct e => exact fun σ H1 G1 s l1 => hc σ H1 (h σ H1 G1 s l1)
  | rt d e =>
    cases own with
    | true => exact fun p o σ H1 G1 n s l1 r => hr _ _ (h p o σ H1 G1 n s l1 r)
    | false => exact fun v σ H1 G1 s l1 r => hr _ _ (h v σ H1 G1 s l1 r)
  | exc c x e => exact fun cls dd σ H1 G1 s l1 r => h cls dd σ H1 G1 s l1 r
  | stuck => exact h.elim
theorem AftS.seq {a b : SM} {e : Env} (h : AftS T K own F G (seqM a b e) D) : AftS T K own F G (a e) { D with nx := tS T K own F b D } := by
  unfold seqM at h
  cases ha : a e with
  | nx e1 =>
    rw [ha] at h
    exact fun σ H1 G1 s l1 => ⟨e1, G1, s, h.weak l1⟩
  | bk e1 => rw [ha] at h; exact h
  | ct e1 => rw [ha] at h; exact h
  | rt d e1 => rw [ha] at h; exact h
  | exc c x e1 => rw [ha] at h; exact h
  | stuck => rw [ha] at h; exact h
end
/-- a statement by an expression's outcome -/
def onV (m : M D) (k : D → SM) : SM := fun e => match m e with | .ok d e' => k d e' | .exc c x e' => .exc c x e' | .stuck => .stuck
def onB (m : M Bool) (k : Bool → SM) : SM := fun e => match m e with | .ok d e' => k d e' | .exc c x e' => .exc c x e' | .stuck => .stuck
section
variable {T : ExcT} {K : Fg} {own : Bool} {F : Frm} {σ : L2.St} {G : Hp} {D : Ends} {e : Env}
theorem AftS.onV {m : M PyData} {k : PyData → SM} (h : AftS T K own F G (Tp.onV m k e) D) : Aft T K F σ (rE K σ) G (m e) (fun v H1 => ∃ d e1 G1, SR K F σ H1 e1 G1 ∧ LeG G G1 ∧ RD K G1 d v ∧ AftS T K own F G1 (k d e1) D) := by
  unfold Tp.onV at h
  cases hm : m e with
  | ok d e1 =>
    rw [hm] at h
    exact fun v H1 G1 s l r => ⟨d, e1, G1, s, l, r, h.weak l⟩
  | exc c x e1 =>
    rw [hm] at h
    exact fun cls dd H1 G1 s l r => h cls dd σ H1 G1 s l r
  | stuck => rw [hm] at h; exact h.elim
theorem AftS.onN {m : M PyData} {k : PyData → SM} (h : AftS T K own F G (Tp.onV m k e) D) : AftN T K F σ G (m e) (fun v H1 => ∃ d e1 G1 p o, v = .ref p ∧ (∀ q ∈ F.R, q.1 ≠ p) ∧ SR K (F.plus p o) σ H1 e1 G1 ∧ LeG G G1 ∧ OwnAt K G1 H1 p d ∧ AftS T K own F G1 (k d e1) D) := by
  unfold Tp.onV at h
  cases hm : m e with
  | ok d e1 =>
    rw [hm] at h
    exact fun p o H1 G1 n s l r => ⟨d, e1, G1, p, o, rfl, n, s, l, r, h.weak l⟩
  | exc c x e1 =>
    rw [hm] at h
    exact fun cls dd H1 G1 s l r => h cls dd σ H1 G1 s l r
  | stuck => rw [hm] at h; exact h.elim
theorem AftS.onB {m : M Bool} {k : Bool → SM} (h : AftS T K own F G (Tp.onB m k e) D) : Aft T K F σ (rT σ) G (m e) (fun b H1 => ∃ e1 G1, SR K F σ H1 e1 G1 ∧ LeG G G1 ∧ AftS T K own F G1 (k b e1) D) := by
  unfold Tp.onB at h
  cases hm : m e with
  | ok d e1 =>
    rw [hm] at h
    exact fun v H1 G1 s l r => by
      have z : d = v := r
      subst z
      exact ⟨e1, G1, s, l, h.weak l⟩
  | exc c x e1 =>
    rw [hm] at h
    exact fun cls dd H1 G1 s l r => h cls dd σ H1 G1 s l r
  | stuck => rw [hm] at h; exact h.elim
end
/-! ### small ones -/
section
variable {T : ExcT} {X : Cx} {own : Bool} {st : Stmt} {sts : List Stmt} {a b : SM} {ex : Expr} {m : M D} {pos : Pos}
theorem sss_nil : SSs T X own [] nextM := fun F tk => PSs.weak pss_nil fun D σ H ⟨e, G, s, q⟩ => q σ H G s LeG.refl
theorem sss_cons (h : SS T X own st a) (h' : SSs T X own sts b) : SSs T X own (st :: sts) (seqM a b) := fun F tk => PSs.weak (pss_cons (h F tk) (h' F tk)) fun D σ H ⟨e, G, s, q⟩ => ⟨e, G, s, q.seq⟩
theorem ss_pass : SS T X own (.Pass pos) nextM := fun F tk => PS.weak ps_pass fun D σ H ⟨e, G, s, q⟩ => q σ H G s LeG.refl
theorem ss_break : SS T X own (.Break pos) .bk := fun F tk => PS.weak ps_break fun D σ H ⟨e, G, s, q⟩ => q σ H G s LeG.refl
theorem ss_cont : SS T X own (.Continue pos) .ct := fun F tk => PS.weak ps_continue fun D σ H ⟨e, G, s, q⟩ => q σ H G s LeG.refl
theorem ss_never : SS T X own st (fun _ => .stuck) := fun F tk => PS.weak ps_never fun D σ H ⟨e, G, s, q⟩ => q
theorem ss_ret (h : SE T X ex m) : SS T X false (.Return (some ex) pos) (onV m .rt) := fun F tk => PS.weak (ps_ret (h F tk)) fun D σ H ⟨e, G, s, q⟩ => by
  refine ⟨e, G, s, (AftS.onV (σ := σ) q).mono fun v H1 ⟨d, e1, G1, s1, l1, r1, q1⟩ => ?_⟩
  exact q1 v σ H1 G1 s1 LeG.refl r1
theorem ss_retN (h : SN T X ex m) : SS T X true (.Return (some ex) pos) (onV m .rt) := fun F tk => PS.weak (ps_ret (h F tk)) fun D σ H ⟨e, G, s, q⟩ => by
  refine ⟨e, G, s, (AftS.onN (σ := σ) q).mono fun v H1 ⟨d, e1, G1, p, o, ev, n, s1, l1, r1, q1⟩ => ?_⟩
  subst ev
  exact q1 p o σ H1 G1 n s1 LeG.refl r1
theorem ss_ret0 : SS T X false (.Return none pos) (.rt .none) := fun F tk => PS.weak ps_retN fun D σ H ⟨e, G, s, q⟩ => q .non σ H G s LeG.refl .non
def notComp : Expr → Bool
  | .ListComp .. => false
  | .SetComp .. => false
  | .DictComp .. => false
  | _ => true
theorem swaps_not {e : Expr} {t : Option Expr} {l : Nat} {env : PySem.Env} (h : notComp e = true) : swapsWith e t l env = pure false := by
  cases e <;> first | rfl | cases h
theorem ss_expr (h : SE T X ex m) (hn : notComp ex = true) : SS T X own (.Expr ex pos) (onV m fun _ => .nx) := fun F tk => PS.weak (ps_expr (h F tk) (swaps_not hn)) fun D σ H ⟨e, G, s, q⟩ => by
  refine ⟨e, G, s, (AftS.onV (σ := σ) q).mono fun v H1 ⟨d, e1, G1, s1, l1, r1, q1⟩ => ?_⟩
  exact q1 σ H1 G1 s1 LeG.refl
theorem ss_if {c : Expr} {sa sb : List Stmt} {mc : M Bool} (hc : SB T X c mc) (ha : SSs T X own sa a) (hb : SSs T X own sb b) : SS T X own (.If c sa sb pos) (onB mc fun k => if k then a else b) := fun F tk =>
  PS.weak (ps_if (hc F tk) (ha F tk) (hb F tk)) fun D σ H ⟨e, G, s, q⟩ => by
  refine ⟨e, G, s, (AftS.onB (σ := σ) q).mono fun k H1 ⟨e1, G1, s1, l1, q1⟩ => ?_⟩
  cases k with
  | true => exact ⟨e1, G1, s1, q1⟩
  | false => exact ⟨e1, G1, s1, q1⟩
end
/-! ### assignments -/
def setO (e : Env) (i : Nat) (d : D) : Option Env := match e[i]? with | none => none | some (.io _) => none | some _ => some (e.set i (.own d))
theorem SR.seto {K : Fg} {F : Frm} {σ : L2.St} {H G : Hp} {e e' : Env} {p : Addr} {o : HO} (hne : ∀ q ∈ F.R, q.1 ≠ p) (s : SR K (F.plus p o) σ H e G) {i : Nat} {d : D} (ow : OwnAt K G H p d) (h : setO e i d = some e') : SR K F (σ.set i (some (.ref p))) H e' G := by
  have s0 := s.unplus
  unfold setO at h
  cases q : e[i]? with
  | none => rw [q] at h; cases h
  | some sl =>
    have nio : ∀ d', sl ≠ .io d' := fun d' z => by subst z; rw [q] at h; cases h
    have he : e' = e.set i (.own d) := by
      rw [q] at h
      cases sl <;> first | exact (Option.some.inj h).symm | exact absurd rfl (nio _)
    subst he
    have hi : i < e.length := (List.getElem?_eq_some_iff.mp q).1
    have hi' : i < σ.length := by rw [← s.len]; exact hi
    have off : ∀ {j : Nat}, j ≠ i → (e.set i (.own d))[j]? = e[j]? := fun {j} hj => List.getElem?_set_ne (Ne.symm hj)
    have offσ : ∀ {j : Nat}, j ≠ i → (σ.set i (some (.ref p)))[j]? = σ[j]? := fun {j} hj => List.getElem?_set_ne (Ne.symm hj)
    have own : (e.set i (.own d))[i]? = some (.own d) := List.getElem?_set_self hi
    have ownσ : (σ.set i (some (V.ref p)))[i]? = some (some (.ref p)) := List.getElem?_set_self hi'
    obtain ⟨p1, p2, p3⟩ := s.res (p, o) List.mem_cons_self
    -- an own object of another slot is another object
    have apart : ∀ {j : Nat} {d' : D} {a : Addr}, j ≠ i → e[j]?.bind Slot.mine? = some d' → σ[j]? = some (some (.ref a)) → a ≠ p := fun {j d' a} hj hm hs z => by
      subst z
      obtain ⟨a2, k1, _, k3, _⟩ := s.mine hm
      rw [hs] at k1
      have : a = a2 := by
        injection k1 with k1
        injection k1 with k1
        injection k1
      exact k3 (a, o) List.mem_cons_self this
    refine ⟨s.le, by rw [List.length_set, List.length_set]; exact s.len, fun j d' hj => ?_, fun j d' hj => ?_, fun j d' hj => ?_, fun q' hp => ?_, fun j k d1 d2 b hjk hj hk => ?_, s.keep, s.gk, s.fresh, s0.res⟩
    · have z : j ≠ i := fun z => by subst z; rw [own] at hj; cases hj
      rw [off z] at hj
      obtain ⟨w, k1, k2⟩ := s.vals j d' hj
      exact ⟨w, by rw [offσ z]; exact k1, k2⟩
    · by_cases z : j = i
      · subst z
        rw [own] at hj
        have : d = d' := by injection hj with hj; injection hj
        subst this
        exact ⟨p, ownσ, ow, p3, fun r hr z => by
          -- what else is in the making is another object
          have := (s.res r (List.mem_cons_of_mem _ hr))
          exact (hne r hr z).elim⟩
      · rw [off z] at hj
        obtain ⟨a, k1, k2, k3, k4⟩ := s0.owns j d' hj
        exact ⟨a, by rw [offσ z]; exact k1, k2, k3, k4⟩
    · have z : j ≠ i := fun z => by subst z; rw [own] at hj; cases hj
      rw [off z] at hj
      exact s0.iosl j d' hj
    · obtain ⟨k1, d', k2⟩ := s.iosv q' hp
      have z : q'.1 ≠ i := fun z => by rw [z, q] at k2; exact nio d' (Option.some.inj k2)
      exact ⟨by rw [offσ z]; exact k1, d', by rw [off z]; exact k2⟩
    · by_cases z1 : j = i
      · subst z1
        have z2 : k ≠ j := fun z => hjk z.symm
        rw [off z2] at hk
        rw [ownσ, offσ z2]
        intro e1 e2
        have eb : p = b := by
          injection e1 with e1
          injection e1 with e1
          injection e1
        subst eb
        exact apart z2 hk e2 rfl
      · rw [off z1] at hj
        by_cases z2 : k = i
        · subst z2
          rw [ownσ, offσ z1]
          intro e1 e2
          have eb : p = b := by
            injection e2 with e2
            injection e2 with e2
            injection e2
          subst eb
          exact apart z1 hj e1 rfl
        · rw [off z2] at hk
          rw [offσ z1, offσ z2]
          exact s.dist j k d1 d2 b hjk hj hk
end Tp
/-! Tp10: assignments, changes of own objects, loops. -/
namespace Tp
open PySem PySem.Spec PyProof.Rows L2
def liftE (o : Option Env) : Out := match o with | some e => .nx e | none => .stuck
section
variable {T : ExcT} {X : Cx} {own : Bool} {ex tg : Expr} {m : M D} {t : Tgt} {pos : Pos} {i : Nat} {x : Str} {px : Pos}
def isTup : Expr → Bool
  | .Tuple .. => true
  | .List .. => true
  | _ => false
theorem swaps_sole {tg e : Expr} {l : Nat} {env : PySem.Env} (h : notComp e = true) : swapsWithSole [tg] e l env = pure false := by
  show swapsWith e (some tg) l env = pure false
  exact swaps_not h
theorem stores_not {tg e : Expr} {env : PySem.Env} (h : isTup e = false ∨ isTup tg = false) : swappedStores [tg] e env = pure none := by
  rcases h with h | h
  · cases e <;> first | (cases tg <;> rfl) | cases h
  · cases tg <;> first | (cases e <;> rfl) | cases h
theorem assign_one {tg : Expr} {env : PySem.Env} (h : notStar tg = true) : (assignEach [tg] env).map (fun x => x.2) = [assign tg env] := by
  cases tg <;> first | rfl | cases h
theorem ss_asg (he : SE T X ex m) (hg : SG X tg t) (hn : notComp ex = true) (ns : notStar tg = true) (ht : swappedStores [tg] ex X.env = pure none) : SS T X own (.Assign [tg] ex pos) (onV m fun d e => liftE (t.bind d e)) := fun F tk =>
  PS.weak (ps_asg (he F tk) hg (swaps_sole hn) ht (assign_one ns)) fun D σ H ⟨e, G, s, q⟩ => by
  refine ⟨e, G, s, (AftS.onV (σ := σ) q).mono fun v H1 ⟨d, e1, G1, s1, l1, r1, q1⟩ => ?_⟩
  cases hb : t.bind d e1 with
  | none => rw [hb] at q1; exact q1.elim
  | some e2 =>
    rw [hb] at q1
    exact ⟨F, d, e1, e2, G1, s1, r1, hb, fun σ' s' _ => q1 σ' H1 G1 s' LeG.refl⟩
/-- a new object of this frame's own -/
theorem ss_asgO (he : SN T X ex m) (hN : X.N.Nodup) (hi : X.N[i]? = some x) (hx : Loc X.env.scope x) (hf : X.fn x = true ∨ X.env.scope.names.lookup x = some .local) (hn : notComp ex = true) : SS T X own (.Assign [.Name x px] ex pos) (onV m fun d e => liftE (setO e i d)) := fun F tk =>
  PS.weak (ps_set hN hi hx (he F tk) (swaps_not hn) hf) fun D σ H ⟨e, G, s, q⟩ => by
  refine ⟨e, G, s, (AftS.onN (σ := σ) q).mono fun v H1 ⟨d, e1, G1, p, o, ev, n, s1, l1, r1, q1⟩ => ?_⟩
  subst ev
  cases hb : setO e1 i d with
  | none => rw [hb] at q1; exact q1.elim
  | some e2 =>
    rw [hb] at q1
    exact q1 _ H1 G1 (SR.seto n s1 r1 hb) LeG.refl
section
variable {elt iter tgc : Expr} {ifs : List Expr} {scope : Scope} {cown : List (Str × Nat)} {cpos : Pos} {mi : M Src} {ct : Tgt} {mc : M Bool} {me : M D}
/-- name = [..], the name a local: the list may be known at once, or stay an object of one's own -/
theorem ss_lc (hc : X.calm = true) (hN : X.N.Nodup) (hi : X.N[i]? = some x) (hx : X.env.scope.names.lookup x = some .local)
    (hsw : swapsWith (.ListComp elt [⟨tgc, iter, ifs, 0⟩] scope cpos) (some (.Name x px)) pos.line X.env = pure true)
    (hit : SI T X tgc iter mi) (hb : BlkS T X scope elt tgc ifs ct mc me) (ok : BlkOk X.N X.env.scope scope cown) (ht : ∀ i ∈ ct.slots, i ∈ cown.map (·.2)) (hsm : SrcM mi) (hp : NoOwn mi ∨ (PureM mc ∧ PureM me)) (hs : notSet iter = true) :
    SS T X own (.Assign [.Name x px] (.ListComp elt [⟨tgc, iter, ifs, 0⟩] scope cpos) pos) (onV (lcM mi ct (cown.map (·.2)) mc me) fun d e => liftE (setV e i d)) := fun F tk =>
  PS.weak (ps_setLc (g := gT X.K ct) (tt := tXn T X.K rT mc) (te := tXn T X.K (rE X.K) me) hc hN hi hx hsw (hit F tk) ok (fun s H C cl fp => hb.g s H C cl fp) (fun s H C cl fp => (hb.c s H C cl fp).n) (fun s H C cl fp => (hb.e s H C cl fp).n) (notSet_iter hs)) fun D σ H ⟨e, G, s, q⟩ => by
  refine lc_read ht hsm hp ⟨e, G, s, (AftS.onN (σ := σ) q).mono fun v H1 ⟨d, e1, G1, p, o, ev, n, s1, l1, r1, q1⟩ => ?_⟩
  subst ev
  obtain ⟨s2, l2⟩ := s1.froze n
  have rd := r1.rd (s1.res (p, o) List.mem_cons_self).1 l2
  cases hb : setV e1 i d with
  | none => rw [hb] at q1; exact q1.elim
  | some e2 =>
    rw [hb] at q1
    exact q1 _ H1 _ (s2.setv rd hb) l2
theorem ss_lcO (hc : X.calm = true) (hN : X.N.Nodup) (hi : X.N[i]? = some x) (hx : X.env.scope.names.lookup x = some .local)
    (hsw : swapsWith (.ListComp elt [⟨tgc, iter, ifs, 0⟩] scope cpos) (some (.Name x px)) pos.line X.env = pure true)
    (hit : SI T X tgc iter mi) (hb : BlkS T X scope elt tgc ifs ct mc me) (ok : BlkOk X.N X.env.scope scope cown) (ht : ∀ i ∈ ct.slots, i ∈ cown.map (·.2)) (hsm : SrcM mi) (hp : NoOwn mi ∨ (PureM mc ∧ PureM me)) (hs : notSet iter = true) :
    SS T X own (.Assign [.Name x px] (.ListComp elt [⟨tgc, iter, ifs, 0⟩] scope cpos) pos) (onV (lcM mi ct (cown.map (·.2)) mc me) fun d e => liftE (setO e i d)) := fun F tk =>
  PS.weak (ps_setLc (g := gT X.K ct) (tt := tXn T X.K rT mc) (te := tXn T X.K (rE X.K) me) hc hN hi hx hsw (hit F tk) ok (fun s H C cl fp => hb.g s H C cl fp) (fun s H C cl fp => (hb.c s H C cl fp).n) (fun s H C cl fp => (hb.e s H C cl fp).n) (notSet_iter hs)) fun D σ H ⟨e, G, s, q⟩ => by
  refine lc_read ht hsm hp ⟨e, G, s, (AftS.onN (σ := σ) q).mono fun v H1 ⟨d, e1, G1, p, o, ev, n, s1, l1, r1, q1⟩ => ?_⟩
  subst ev
  cases hb : setO e1 i d with
  | none => rw [hb] at q1; exact q1.elim
  | some e2 =>
    rw [hb] at q1
    exact q1 _ H1 _ (SR.seto n s1 r1 hb) LeG.refl
end
/-! ### a, b = x, y -/
/-- for any frame -/
def tXa (T : ExcT) (X : Cx) {α β : Type} (rel : L2.St → Hp → α → β → Prop) (m : M α) : L2.St → Hp → (β → Hp → Prop) → Prop := fun σ H Q => ∃ F : Frm, Takes X F.W ∧ tX T X.K F rel m σ H Q
def tNa (T : ExcT) (X : Cx) (m : M D) : TE := fun σ H Q => ∃ F : Frm, Takes X F.W ∧ tN T X.K F m σ H Q
theorem SE.a (h : SE T X ex m) : PE X ex (tXa T X (rE X.K) m) := ⟨fun pins s σ H Q I ⟨F, tk, q⟩ => (h F tk).run pins s σ H Q I q⟩
theorem SN.a (h : SN T X ex m) : PE X ex (tNa T X m) := ⟨fun pins s σ H Q I ⟨F, tk, q⟩ => (h F tk).run pins s σ H Q I q⟩
/-- a part of a parallel assignment: a value, or a new object -/
def SVO (T : ExcT) (X : Cx) (o : Bool) (ex : Expr) (m : M D) : Prop := if o = true then SN T X ex m else SE T X ex m
def tVO (T : ExcT) (X : Cx) (o : Bool) (m : M D) : TE := if o = true then tNa T X m else tXa T X (rE X.K) m
theorem SVO.pe {o : Bool} (h : SVO T X o ex m) : PE X ex (tVO T X o m) := by
  unfold SVO at h
  unfold tVO
  cases o with
  | true => exact h.a
  | false => exact h.a
def putVO (o : Bool) (e : Env) (i : Nat) (d : D) : Option Env := if o = true then setO e i d else setV e i d
def par2 (o1 o2 : Bool) (i j : Nat) (m1 m2 : M D) : SM := onV m1 fun d1 => onV m2 fun d2 e => liftE ((putVO o2 e j d2).bind fun e' => putVO o1 e' i d1)
/-- what is in the hand: a value, or an object in the making -/
def Hand (K : Fg) (F : Frm) (o : Bool) (F' : Frm) (G H : Hp) (d : D) (v : V) : Prop :=
  if o = true then ∃ p ob, v = .ref p ∧ F' = F.plus p ob ∧ (∀ q ∈ F.R, q.1 ≠ p) ∧ OwnAt K G H p d else F' = F ∧ RD K G d v
theorem Hand.put {K : Fg} {F F' : Frm} {o : Bool} {G H : Hp} {d : D} {v : V} {σ : L2.St} {e e' : Env} (h : Hand K F o F' G H d v) (s : SR K F' σ H e G) (hp : putVO o e i d = some e') : SR K F (σ.set i (some v)) H e' G := by
  unfold Hand at h
  unfold putVO at hp
  cases o with
  | true =>
    obtain ⟨p, ob, rfl, rfl, n, ow⟩ := h
    exact SR.seto n s ow hp
  | false =>
    obtain ⟨rfl, r⟩ := h
    exact s.setv r hp
theorem Hand.later {K : Fg} {F F' : Frm} {o : Bool} {G H G' H' : Hp} {d : D} {v : V} {σ : L2.St} {e : Env} (h : Hand K F o F' G H d v) (s0 : SR K F' σ H e G) {e1 : Env} (s : SR K F' σ H' e1 G') (l : LeG G G') : Hand K F o F' G' H' d v := by
  unfold Hand at h ⊢
  cases o with
  | true =>
    obtain ⟨p, ob, rfl, rfl, n, ow⟩ := h
    refine ⟨p, ob, rfl, rfl, n, ow.mono l (s.res (p, ob) List.mem_cons_self).2.1 fun u q => ?_⟩
    rw [(s0.res (p, ob) List.mem_cons_self).1] at q
    rw [(s.res (p, ob) List.mem_cons_self).1]
    exact q
  | false =>
    obtain ⟨rfl, r⟩ := h
    exact ⟨rfl, RD.le l r⟩
theorem Hand.w {K : Fg} {F F' : Frm} {o : Bool} {G H : Hp} {d : D} {v : V} (h : Hand K F o F' G H d v) : F'.W = F.W ∧ (∀ {σ : L2.St} {H1 : Hp} {e1 : Env} {G1 : Hp}, SR K F' σ H1 e1 G1 → SR K F σ H1 e1 G1) := by
  unfold Hand at h
  cases o with
  | true =>
    obtain ⟨p, ob, rfl, rfl, n, ow⟩ := h
    exact ⟨rfl, fun s => s.unplus⟩
  | false =>
    obtain ⟨rfl, r⟩ := h
    exact ⟨rfl, fun s => s⟩
theorem tVO_of {o : Bool} {F : Frm} (tk : Takes X F.W) {σ : L2.St} {H G : Hp} {e : Env} {D : Ends} (s : SR X.K F σ H e G) {k : PyData → SM} {ow : Bool} {F0 : Frm}
    (hF : ∀ {H1 : Hp} {e1 : Env} {G1 : Hp}, SR X.K F σ H1 e1 G1 → SR X.K F0 σ H1 e1 G1) (hW : F.W = F0.W)
    (q : AftS T X.K ow F0 G (onV m k e) D) {Q : VK} (hq : ∀ v H1 d e1 G1 F', Hand X.K F o F' G1 H1 d v → SR X.K F' σ H1 e1 G1 → LeG G G1 → AftS T X.K ow F0 G1 (k d e1) D → Q v H1) : tVO T X o m σ H Q := by
  unfold tVO
  unfold onV at q
  cases o with
  | true =>
    refine ⟨F, tk, e, G, s, ?_⟩
    unfold AftN
    cases hm : m e with
    | ok d e1 =>
      rw [hm] at q
      exact fun p ob H1 G1 n s1 l1 ow1 => hq _ H1 d e1 G1 (F.plus p ob) ⟨p, ob, rfl, rfl, n, ow1⟩ s1 l1 (q.weak l1)
    | exc c x e1 =>
      rw [hm] at q
      exact fun cls dd H1 G1 s1 l1 r1 => by rw [hW]; exact q cls dd σ H1 G1 (hF s1) l1 r1
    | stuck => rw [hm] at q; exact q.elim
  | false =>
    refine ⟨F, tk, e, G, s, ?_⟩
    unfold Aft
    cases hm : m e with
    | ok d e1 =>
      rw [hm] at q
      exact fun v H1 G1 s1 l1 r1 => hq v H1 d e1 G1 F ⟨rfl, r1⟩ s1 l1 (q.weak l1)
    | exc c x e1 =>
      rw [hm] at q
      exact fun cls dd H1 G1 s1 l1 r1 => by rw [hW]; exact q cls dd σ H1 G1 (hF s1) l1 r1
    | stuck => rw [hm] at q; exact q.elim
theorem ss_par2 {o1 o2 : Bool} {a b : Expr} {m1 m2 : M D} {i j : Nat} {x y : Str} {px py pt pt2 : Pos} {kt k2 : Nat} (h1 : SVO T X o1 a m1) (h2 : SVO T X o2 b m2) (hc : X.calm = true) (hN : X.N.Nodup) (hi : X.N[i]? = some x) (hj : X.N[j]? = some y) (hij : i ≠ j)
    (hx : X.env.scope.names.lookup x = some .local) (hy : X.env.scope.names.lookup y = some .local) (na : notStar a = true) (nb : notStar b = true)
    (hw : swappedStores [.Tuple [.Name x px, .Name y py] kt pt] (.Tuple [a, b] k2 pt2) X.env = pure (some [x, y])) :
    SS T X own (.Assign [.Tuple [.Name x px, .Name y py] kt pt] (.Tuple [a, b] k2 pt2) pos) (par2 o1 o2 i j m1 m2) := fun F tk =>
  PS.weak (ps_par hc hN hi hj hij hx hy (pa_cons h1.pe (pa_cons h2.pe pa_nil (star_cons nb)) (star_cons na)) hw rfl) fun D σ H ⟨e, G, s, q⟩ => by
  refine tVO_of (F := F) (F0 := F) tk s (fun s => s) rfl q fun v H1 d1 e1 G1 F1 hd1 s1 l1 q1 => ?_
  refine tVO_of (F := F1) (F0 := F) (by rw [hd1.w.1]; exact tk) s1 (fun s => hd1.w.2 s) hd1.w.1 q1 fun w H2 d2 e2 G2 F2 hd2 s2 l2 q2 => ?_
  refine ⟨v, w, rfl, ?_⟩
  have hl := hd1.later s1 (hd2.w.2 s2) l2
  cases hp1 : putVO o2 e2 j d2 with
  | none => rw [hp1] at q2; exact q2.elim
  | some e3 =>
    cases hp2 : putVO o1 e3 i d1 with
    | none => rw [hp1, show (some e3 : Option Env).bind (fun e' => putVO o1 e' i d1) = putVO o1 e3 i d1 from rfl, hp2] at q2; exact q2.elim
    | some e4 =>
      rw [hp1, show (some e3 : Option Env).bind (fun e' => putVO o1 e' i d1) = putVO o1 e3 i d1 from rfl, hp2] at q2
      have s3 := hd2.put s2 hp1
      have s4 := hl.put s3 hp2
      rw [List.set_comm _ _ (Ne.symm hij)] at s4
      exact q2 _ H2 G2 s4 LeG.refl
end
end Tp
/-! Tp11: changes of own objects, loops. -/
namespace Tp
open PySem PySem.Spec PyProof.Rows L2
section
variable {T : ExcT} {X : Cx} {own : Bool} {ex : Expr} {m : M D} {pos : Pos} {i : Nat} {x : Str} {px : Pos}
/-- x += e, x -= e of ints -/
def augM (f : Int → Int → Int) (i : Nat) (m : M D) : SM := fun e => match e[i]? with
  | some (.val (.int a)) => onV m (fun d e' => match d with | .int b => liftE (setV e' i (.int (f a b))) | _ => .stuck) e
  | _ => .stuck
theorem ss_aug {op : Operator} {f : Int → Int → Int} (ho : PIp X op (ipI f)) (he : SE T X ex m) (hN : X.N.Nodup) (hi : X.N[i]? = some x) (hx : Loc X.env.scope x) (hf : X.fn x = true ∨ X.env.scope.names.lookup x = some .local) :
    SS T X own (.AugAssign (.Name x px) op ex pos) (augM f i m) := fun F tk => PS.weak (ps_aug hN hi hx (he F tk) ho hf) fun D σ H ⟨e, G, s, q⟩ => by
  unfold augM at q
  split at q
  · rename_i a ha
    obtain ⟨v, h1, h2⟩ := s.vals i _ ha
    cases h2
    refine ⟨_, h1, e, G, s, (AftS.onV (σ := σ) q).mono fun w H1 ⟨d, e1, G1, s1, l1, r1, q1⟩ => ?_⟩
    cases d <;> first | exact q1.elim | skip
    rename_i b
    cases r1
    refine ⟨a, b, rfl, rfl, ?_⟩
    cases hb : setV e1 i (.int (f a b)) with
    | none => simp only [hb] at q1; exact q1.elim
    | some e2 =>
      simp only [hb] at q1
      exact q1 _ H1 G1 (s1.setv (.int _) hb) LeG.refl
  · exact q.elim
/-- an own object's slot -/
def mMine (i : Nat) : M Opd := fun e => match e[i]?.bind Slot.mine? with | some _ => .ok (.inr i) e | none => .stuck
theorem so_mine (hN : X.N[i]? = some x) (hv : Vis X.env.scope x) (hd : (x == ("__debug__" : Str)) = false) (hcd : (x == ("__classdict__" : Str)) = false) : SO T X (.Name x pos) (mMine i) := fun F _ => PE.weak (pe_var hN hv hd hcd) fun σ H Q ⟨e, G, s, q⟩ => by
  unfold mMine at q
  cases h : e[i]?.bind Slot.mine? with
  | none => rw [h] at q; exact q.elim
  | some d =>
    rw [h] at q
    obtain ⟨a, h1, _⟩ := s.mine h
    exact ⟨.ref a, h1, q (.ref a) H G s LeG.refl h1⟩
/-- an own object changes -/
def changeM (i : Nat) (f : D → Option D) : SM := fun e => match e[i]?.bind Slot.mine? with
  | some d => match f d with | some d' => .nx (putMine e i d') | none => .stuck
  | none => .stuck
theorem aft_change {K : Fg} {F : Frm} {σ : L2.St} {H G : Hp} {e : Env} {D : Ends} {f : PyData → Option PyData} (s : SR K F σ H e G) (q : AftS T K own F G (changeM i f e) D) : ∃ a d d', σ[i]? = some (some (.ref a)) ∧ OwnAt K G H a d ∧ f d = some d' ∧
    ∀ o', OwnAt K G (upd H a o') a d' → D.nx σ (upd H a o') := by
  unfold changeM at q
  cases hm : e[i]?.bind Slot.mine? with
  | none => rw [hm] at q; exact q.elim
  | some d =>
    rw [hm] at q
    cases hf : f d with
    | none => simp only [hf] at q; exact q.elim
    | some d' =>
      simp only [hf] at q
      obtain ⟨a, h1, h2, _⟩ := s.mine hm
      refine ⟨a, d, d', h1, h2, hf, fun o' ow => ?_⟩
      refine q σ _ G (s.turned hm h1 (fun b u hb k => by rw [upd_ne hb]; exact k) LeG.refl (fun b u k => ?_) (fun b u k => .inl k) ow) LeG.refl
      have hb : b ≠ a := fun z => by rw [z, h2.free] at k; cases k
      rw [upd_ne hb]
      exact s.le b u k
/-- x.append(e) -/
def appD (y : D) : D → Option D
  | .list ds => if ds.length < sizeLine then some (.list (ds ++ [y])) else none
  | _ => none
def appM (i : Nat) (m : M D) : SM := fun e => match e[i]?.bind Slot.mine? with | some (.list _) => onV m (fun y => changeM i (appD y)) e | _ => .stuck
theorem ss_append {apos cpos : Pos} (he : SE T X ex m) (hN : X.N[i]? = some x) (hv : Vis X.env.scope x) (hd : (x == ("__debug__" : Str)) = false) (hcd : (x == ("__classdict__" : Str)) = false) (hl : (apos.endLine == cpos.line) = true) (ns : notStar ex = true) :
    SS T X own (.Expr (.Call (.Attribute (.Name x px) "append" apos) [ex] [] cpos) pos) (appM i m) := fun F tk =>
  PS.weak (ps_expr (pe_bm PySem.F.plainAttrs_list PySem.F.slot_list_append PySem.F.type_list_append mt_append (pe_var hN hv hd hcd) (pa_cons (he F tk) pa_nil (star_cons ns)) rfl (by rw [star_cons ns] <;> rfl) hl (star_cons ns) rfl) rfl) fun D σ H ⟨e, G, s, q⟩ => by
  unfold appM at q
  split at q
  · rename_i ds hm
    obtain ⟨a, h1, h2, _⟩ := s.mine hm
    obtain ⟨_, vs, k1, k2⟩ := h2
    refine ⟨.ref a, h1, .inl ⟨rfl, vs, .inl (.inl k1)⟩, e, G, s, (AftS.onV (σ := σ) q).mono fun v H1 ⟨d, e1, G1, s1, l1, r1, q1⟩ => ?_⟩
    obtain ⟨a', d1, d1', w1, w2, w3, w4⟩ := aft_change s1 q1
    have ea : a = a' := by
      rw [h1] at w1
      injection w1 with z
      injection z with z
      injection z
    subst ea
    cases d1 <;> simp only [appD] at w3
    case list ds1 =>
      split at w3
      · rename_i hz
        cases w3
        obtain ⟨g0, vs1, y1, y2⟩ := w2
        refine ⟨a, vs1, v, rfl, rfl, y1, by rw [← y2.length]; exact hz, ?_⟩
        exact w4 _ ⟨g0, _, upd_same, y2.app (.cons r1 .nil)⟩
      · cases w3
    all_goals cases w3
  · exact q.elim
/-- x[k] = e, a list -/
def setD (k y : D) : D → Option D
  | .list ds => match k with | .int k => (ixN ds.length k).map fun j => .list (ds.set j y) | _ => none
  | _ => none
def setM (i : Nat) (mk m : M D) : SM := onV m fun y e => match e[i]?.bind Slot.mine? with | some _ => onV mk (fun k => changeM i (setD k y)) e | none => .stuck
theorem assign_sub {o kx : Expr} {spos : Pos} {env : PySem.Env} (h : notSlice kx = true) : ∀ v, assign (.Subscript o kx spos) env v = (do let ov ← holding [v] (eval o env); let iv ← holding [v, ov] (eval kx env); standAt spos; holding [v, ov, iv] (setItem ov iv v); release [v, ov, iv] []) := fun v => by
  cases kx <;> first | rfl | cases h
theorem ss_set {kx : Expr} {mk : M D} {spos : Pos} (he : SE T X ex m) (hk : SE T X kx mk) (hN : X.N[i]? = some x) (hv : Vis X.env.scope x) (hd : (x == ("__debug__" : Str)) = false) (hcd : (x == ("__classdict__" : Str)) = false) (hn : notComp ex = true) (nsl : notSlice kx = true) :
    SS T X own (.Assign [.Subscript (.Name x px) kx spos] ex pos) (setM i mk m) := fun F tk =>
  PS.weak (ps_asg (he F tk) (pg_sub (pe_var hN hv hd hcd) (hk F tk) set_list (assign_sub nsl)) (swaps_sole hn) (stores_not (.inr rfl)) rfl) fun D σ H ⟨e, G, s, q⟩ => by
  refine ⟨e, G, s, (AftS.onV (σ := σ) q).mono fun v H1 ⟨y, e1, G1, s1, l1, r1, q1⟩ => ?_⟩
  cases hm : e1[i]?.bind Slot.mine? with
  | none => simp only [hm] at q1; exact q1.elim
  | some d0 =>
    simp only [hm] at q1
    obtain ⟨a, h1, h2, _⟩ := s1.mine hm
    refine ⟨.ref a, h1, e1, G1, s1, (AftS.onV (σ := σ) q1).mono fun w H2 ⟨k, e2, G2, s2, l2, r2, q2⟩ => ?_⟩
    obtain ⟨a', d1, d1', w1, w2, w3, w4⟩ := aft_change s2 q2
    have ea : a = a' := by
      rw [h1] at w1
      injection w1 with z
      injection z with z
      injection z
    subst ea
    cases d1 <;> simp only [setD] at w3
    case list ds1 =>
      split at w3
      · rename_i k
        cases r2
        obtain ⟨g0, vs1, y1, y2⟩ := w2
        cases hj : ixN ds1.length k with
        | none => rw [hj] at w3; cases w3
        | some j =>
          rw [hj] at w3
          cases w3
          refine ⟨a, vs1, k, j, rfl, rfl, y1, by rw [← y2.length]; exact hj, ?_⟩
          exact w4 _ ⟨g0, _, upd_same, RDs.setAt (r1.le l2) j y2⟩
      · cases w3
    all_goals cases w3
/-! ### loops -/
theorem set_self {σ : L2.St} {i : Nat} {x : Option V} (h : σ[i]? = some x) : σ.set i x = σ := by
  apply List.ext_getElem?
  intro j
  by_cases z : j = i
  · subst z
    rw [List.getElem?_set_self (List.getElem?_eq_some_iff.mp h).1, h]
  · rw [List.getElem?_set_ne (Ne.symm z)]
theorem SR.drop {K : Fg} {F : Frm} {σ : L2.St} {H G : Hp} {e : Env} (s : SR K F σ H e G) : ∀ {vs : List Nat} {e' : Env}, wipeE e vs = some e' → SR K F σ H e' G
  | [], e', h => by
    have z : e = e' := Option.some.inj h
    subst z
    exact s
  | v :: vs, e', h => by
    unfold wipeE at h
    cases hb : wipeE e vs with
    | none => rw [hb] at h; cases h
    | some e1 =>
      rw [hb] at h
      have ih := SR.drop s hb
      have h' : (match e1[v]? with | some (.io _) => none | some _ => some (e1.set v .no) | none => none) = some e' := h
      cases hv : e1[v]? with
      | none => rw [hv] at h'; cases h'
      | some sl =>
        rw [hv] at h'
        have z : (∀ d, sl ≠ .io d) ∧ e' = e1.set v .no := by
          cases sl <;> first | exact ⟨fun _ z => by simp at z, (Option.some.inj h').symm⟩ | (cases h'; done)
        rw [z.2]
        have hlt : v < σ.length := by
          have := (List.getElem?_eq_some_iff.mp hv).1
          rw [ih.len] at this
          exact this
        have := ih.lose (i := v) (fun d w => by rw [hv] at w; exact z.1 d (Option.some.inj w)) σ[v]
        rw [set_self (List.getElem?_eq_getElem hlt)] at this
        exact this
def forLoop (t : Tgt) (mb : SM) (kill : List Nat) : List D → Env → Out
  | [], e => .nx e
  | d :: ds, e =>
    match t.bind d e with
    | none => .stuck
    | some e1 =>
      match mb e1 with
      | .nx e2 => match wipeE e2 kill with | some e3 => forLoop t mb kill ds e3 | none => .stuck
      | .ct e2 => match wipeE e2 kill with | some e3 => forLoop t mb kill ds e3 | none => .stuck
      | .bk e2 => liftE (wipeE e2 kill)
      | o => o
def onS (m : M Src) (k : Src → SM) : SM := fun e => match m e with | .ok d e' => k d e' | .exc c x e' => .exc c x e' | .stuck => .stuck
def forM' (mi : M Src) (t : Tgt) (mb : SM) (kill : List Nat) : SM := onS mi fun p e => match p.2 with
  | none => forLoop t mb kill p.1 e
  | some _ => .stuck
theorem ss_for {tg iter : Expr} {body : List Stmt} {mi : M Src} {t : Tgt} {mb : SM} {kill : List Nat} (hp : PassesOwn (model X.prog X.w) X.A X.env X.xe) (hc : X.calm = true) (hi : SI T X tg iter mi) (hg : SG X tg t) (hb : SSs T X own body mb) (hs : notSet iter = true) :
    SS T X own (.For tg iter body [] pos) (forM' mi t mb kill) := fun F tk => PS.weak (ps_for hp hc (hi F tk) hg (hb F tk) (notSet_iter hs)) fun D σ H ⟨e, G, s, q⟩ => by
  refine ⟨e, G, s, ?_⟩
  unfold forM' onS at q
  unfold Aft
  cases hm : mi e with
  | stuck => rw [hm] at q; exact q.elim
  | exc c x e1 => rw [hm] at q; exact fun cls dd H1 G1 s l r => q cls dd σ H1 G1 s l r
  | ok p e1 =>
    rw [hm] at q
    simp only at q
    intro J H1 G1 s1 l1 ⟨S, wk, hS⟩
    cases hp2 : p.2 with
    | some j => rw [hp2] at q; exact q.elim
    | none =>
      rw [hp2] at q
      simp only at q
      have hSat : ∀ {σ : L2.St} {H : Hp} {e : Env} {G : Hp}, SR X.K F σ H e G → LeG G1 G → S G H := fun {σ H e G} s l => hS F σ H e G s l (fun j hj => by rw [hp2] at hj; cases hj) (by unfold srcAt; rw [hp2]; trivial)
      refine ⟨fun k m σ H => m = p.1.length - k ∧ k ≤ p.1.length ∧ ∃ e G, SR X.K F σ H e G ∧ LeG G1 G ∧ AftS T X.K own F G (forLoop t mb kill (p.1.drop k) e) D, ⟨p.1.length, by simp, Nat.zero_le _, e1, G1, s1, LeG.refl, q.weak l1⟩, ?_⟩
      rintro k m σ H ⟨rfl, hk, e, G, s, l, q⟩
      by_cases hlt : k < p.1.length
      · refine .inr ⟨wk.goes k G H hlt s.le (hSat s l), fun σ' H' => ∃ e G, SR X.K F σ' H' e G ∧ LeG G1 G ∧ AftS T X.K own F G (forLoop t mb kill (p.1.drop (k + 1)) e) D, fun σ' H' ⟨e', G', s', l', q'⟩ => ⟨p.1.length - (k + 1), by omega, rfl, hlt, e', G', s', l', q'⟩, fun x H' y => ?_⟩
        obtain ⟨d, Gx, hd, gr, rdx⟩ := wk.yields k G H x H' hlt s.le (hSat s l) y
        have hdrop : p.1.drop k = d :: p.1.drop (k + 1) := by
          obtain ⟨h1, h2⟩ := List.getElem?_eq_some_iff.mp hd
          rw [← h2]
          exact List.drop_eq_getElem_cons h1
        rw [hdrop] at q
        unfold forLoop at q
        cases hb : t.bind d e with
        | none => rw [hb] at q; exact q.elim
        | some e3 =>
          rw [hb] at q
          simp only at q
          refine ⟨F, d, e, e3, Gx, s.grow gr, rdx, hb, fun σ2 s2 _ => ⟨e3, Gx, s2, ?_⟩⟩
          cases hmb : mb e3 with
          | stuck => rw [hmb] at q; exact q.elim
          | exc c x e4 => rw [hmb] at q; exact q.weak gr.g
          | rt d e4 => rw [hmb] at q; exact q.weak gr.g
          | nx e4 =>
            rw [hmb] at q
            simp only at q
            cases hw : wipeE e4 kill with
            | none => rw [hw] at q; exact q.elim
            | some e5 =>
              rw [hw] at q
              exact fun σ3 H3 G3 s3 l3 => ⟨e5, G3, s3.drop hw, l.trans (gr.g.trans l3), q.weak (gr.g.trans l3)⟩
          | ct e4 =>
            rw [hmb] at q
            simp only at q
            cases hw : wipeE e4 kill with
            | none => rw [hw] at q; exact q.elim
            | some e5 =>
              rw [hw] at q
              exact fun σ3 H3 G3 s3 l3 => ⟨e5, G3, s3.drop hw, l.trans (gr.g.trans l3), q.weak (gr.g.trans l3)⟩
          | bk e4 =>
            rw [hmb] at q
            simp only at q
            cases hw : wipeE e4 kill with
            | none => rw [hw] at q; exact q.elim
            | some e5 =>
              rw [hw] at q
              exact fun σ3 H3 G3 s3 l3 => q σ3 H3 G3 (s3.drop hw) (gr.g.trans l3)
      · have ek : k = p.1.length := by omega
        subst ek
        rw [List.drop_length] at q
        exact .inl ⟨wk.stops G H s.le (hSat s l), q σ H G s LeG.refl⟩
def whileLoop (mc : M Bool) (mb : SM) (kill : List Nat) : Nat → Env → Out
  | 0, _ => .stuck
  | n + 1, e =>
    match mc e with
    | .ok true e1 =>
      match mb e1 with
      | .nx e2 => match wipeE e2 kill with | some e3 => whileLoop mc mb kill n e3 | none => .stuck
      | .ct e2 => match wipeE e2 kill with | some e3 => whileLoop mc mb kill n e3 | none => .stuck
      | .bk e2 => liftE (wipeE e2 kill)
      | o => o
    | .ok false e1 => .nx e1
    | .exc c x e1 => .exc c x e1
    | .stuck => .stuck
theorem ss_while {c : Expr} {body : List Stmt} {mc : M Bool} {mb : SM} {kill : List Nat} {n : Nat} (hp : PassesOwn (model X.prog X.w) X.A X.env X.xe) (hc : SB T X c mc) (hb : SSs T X own body mb) :
    SS T X own (.While c body [] pos) (whileLoop mc mb kill n) := fun F tk => PS.weak (ps_while hp (hc F tk) (hb F tk)) fun D σ H ⟨e, G, s, q⟩ => by
  refine ⟨fun m σ H => ∃ e G, SR X.K F σ H e G ∧ AftS T X.K own F G (whileLoop mc mb kill m e) D, ⟨n, e, G, s, q⟩, ?_⟩
  rintro m σ H ⟨e, G, s, q⟩
  refine ⟨e, G, s, ?_⟩
  cases m with
  | zero => exact q.elim
  | succ m =>
    unfold whileLoop at q
    unfold Aft
    cases hm : mc e with
    | stuck => rw [hm] at q; exact q.elim
    | exc c x e1 => rw [hm] at q; exact fun cls dd H1 G1 s l r => q cls dd σ H1 G1 s l r
    | ok b e1 =>
      rw [hm] at q
      intro b' H1 G1 s1 l1 eb
      have eb' : b = b' := eb
      subst eb'
      cases b with
      | false =>
        rw [if_neg (by simp)]
        exact q σ H1 G1 s1 l1
      | true =>
        rw [if_pos rfl]
        simp only at q
        refine ⟨fun σ' H' => ∃ e G, SR X.K F σ' H' e G ∧ AftS T X.K own F G (whileLoop mc mb kill m e) D, fun σ' H' h => ⟨m, Nat.lt_succ_self m, h⟩, e1, G1, s1, ?_⟩
        cases hmb : mb e1 with
        | stuck => rw [hmb] at q; exact q.elim
        | exc c x e4 => rw [hmb] at q; exact q.weak l1
        | rt d e4 => rw [hmb] at q; exact q.weak l1
        | nx e4 =>
          rw [hmb] at q
          simp only at q
          cases hw : wipeE e4 kill with
          | none => rw [hw] at q; exact q.elim
          | some e5 =>
            rw [hw] at q
            exact fun σ3 H3 G3 s3 l3 => ⟨e5, G3, s3.drop hw, q.weak (l1.trans l3)⟩
        | ct e4 =>
          rw [hmb] at q
          simp only at q
          cases hw : wipeE e4 kill with
          | none => rw [hw] at q; exact q.elim
          | some e5 =>
            rw [hw] at q
            exact fun σ3 H3 G3 s3 l3 => ⟨e5, G3, s3.drop hw, q.weak (l1.trans l3)⟩
        | bk e4 =>
          rw [hmb] at q
          simp only at q
          cases hw : wipeE e4 kill with
          | none => rw [hw] at q; exact q.elim
          | some e5 =>
            rw [hw] at q
            exact fun σ3 H3 G3 s3 l3 => q σ3 H3 G3 (s3.drop hw) (l1.trans l3)
end
end Tp
/-! Tp12: isinstance. -/
namespace Tp
open PySem PySem.Spec PyProof.Rows L2
inductive Ty5 where
  | int | bool | str | tuple | list
  deriving DecidableEq
def Ty5.nm : Ty5 → String
  | .int => "int" | .bool => "bool" | .str => "str" | .tuple => "tuple" | .list => "list"
def Ty5.ns : Ty5 → Str
  | .int => "int" | .bool => "bool" | .str => "str" | .tuple => "tuple" | .list => "list"
/-- does a value of the data have the class? -/
def isiD (d : D) (t : Ty5) : Option Bool := match d with
  | .none => some false
  | .bool _ => some (match t with | .int => true | .bool => true | _ => false)
  | .int _ => some (match t with | .int => true | _ => false)
  | .str _ => some (match t with | .str => true | _ => false)
  | .tuple _ => some (match t with | .tuple => true | _ => false)
  | .list _ => some (match t with | .list => true | _ => false)
  | .dict _ => none
def isiAny (d : D) : List Ty5 → Option Bool
  | [] => some false
  | t :: ts => (isiD d t).bind fun b => if b then some true else isiAny d ts
theorem kit5 (a : String) (t : Ty5) (b : Bool) (h : kitB a t.nm = some b) {K : Fg} : PySem.W.kitOne K (.type a) (.type t.nm) = some b := kit_ty h
theorem isi_ty {K : Fg} {G H : Hp} {d : D} {v : V} {t : Ty5} {b : Bool} (l : LeG G H) (r : RB K G H d v) (h : isiD d t = some b) : ∃ a, TyX K H v (.type a) ∧ ∀ t b, isiD d t = some b → PySem.W.kitOne K (.type a) (.type t.nm) = some b := by
  cases d with
  | none =>
    rw [r.none]
    exact ⟨_, .base .non, fun t b h => by cases h; cases t <;> exact kit5 _ _ _ (by decide +kernel)⟩
  | bool x =>
    rw [r.bool]
    exact ⟨_, .base (.bl x), fun t b h => by cases t <;> (cases h; exact kit5 _ _ _ (by decide +kernel))⟩
  | int i =>
    rw [r.int]
    exact ⟨_, .base (.int i), fun t b h => by cases t <;> (cases h; exact kit5 _ _ _ (by decide +kernel))⟩
  | str x =>
    rw [r.str]
    exact ⟨_, .base (.str x), fun t b h => by cases t <;> (cases h; exact kit5 _ _ _ (by decide +kernel))⟩
  | list ds =>
    obtain ⟨a, vs, rfl, h1, h2⟩ := r.list l
    refine ⟨"list", ?_, fun t b h => by cases t <;> (cases h; exact kit5 _ _ _ (by decide +kernel))⟩
    rcases h1 with (h1 | ⟨o, h1⟩) | ⟨its, n, h1, _⟩
    · exact .base (.lst h1)
    · exact .base (.frz h1)
    · exact .kList h1 rfl
  | tuple ds =>
    obtain ⟨a, vs, rfl, h1, h2, _⟩ := r.tuple l
    refine ⟨"tuple", ?_, fun t b h => by cases t <;> (cases h; exact kit5 _ _ _ (by decide +kernel))⟩
    rcases h1 with (h1 | ⟨o, h1⟩) | ⟨o, its, n, h1, h2, _⟩
    · exact .base (.tup h1)
    · exact .fTuple h1
    · exact .kTuple h1 h2
  | dict kvs => cases h
theorem kitAny_of {K : Fg} {d : D} {a : String} (h : ∀ t b, isiD d t = some b → PySem.W.kitOne K (.type a) (.type t.nm) = some b) : ∀ {ts : List Ty5} {b : Bool}, isiAny d ts = some b → PySem.W.kitAny K (.type a) (ts.map fun t => .type t.nm) = some b
  | [], b, e => by cases e; exact kitAny_nil
  | t :: ts, b, e => by
    unfold isiAny at e
    cases h1 : isiD d t with
    | none => rw [h1] at e; cases e
    | some b1 =>
      rw [h1] at e
      have e' : (if b1 then some true else isiAny d ts) = some b := e
      cases b1 with
      | true =>
        cases e'
        exact kitAny_cons (h t true h1) (fun z => nomatch z) (fun _ => rfl)
      | false => exact kitAny_cons (h t false h1) (fun _ => kitAny_of h e') (fun z => nomatch z)
theorem boot_ty5 (t : Ty5) : bootBuiltins t.ns = some (.type t.nm) := by cases t <;> decide +kernel
theorem ns5 (t : Ty5) : t.ns ≠ "__name__" ∧ (t.ns == ("__debug__" : Str)) = false := by cases t <;> exact ⟨by decide, by decide⟩
section
variable {T : ExcT} {X : Cx} {a : Expr} {ma : M Opd} {p p1 pos : Pos}
theorem pe_ty5 {t : Ty5} (hg : Gl X t.ns) (hm : X.mg t.ns = none) : PE X (.Name t.ns p) (tC (.ty t.nm)) := pe_bltn hg hm (boot_ty5 t) rfl (ns5 t).1 (ns5 t).2
def isi1 (t : Ty5) (o : Opd) : M D := doOp1 (fun d => (isiD d t).map .bool) o
theorem se_isi1 {t : Ty5} (ha : SO T X a ma) (na : notStar a = true) (hg0 : Gl X "isinstance") (hm0 : X.mg "isinstance" = none) (hg : Gl X t.ns) (hm : X.mg t.ns = none) :
    SE T X (.Call (.Name "isinstance" p) [a, .Name t.ns p1] [] pos) (M.bind ma (isi1 t)) := fun F tk =>
  PE.weak (pe_callB call_isi hg0 hm0 PyProof.Rows.boot_isinstance (pa_cons (ha F tk) (pa_cons (pe_ty5 hg hm) pa_nil rfl) (star_cons na)) (by decide) (by decide) (star_cons na) rfl) fun σ H Q ⟨e, G, s, q⟩ => by
  refine ⟨e, G, s, (Aft.bind q).mono fun v H1 ⟨o, e1, G1, s1, l1, r1, q1⟩ => ?_⟩
  refine aft_op1 (r := fun v H1 Q => rIsi X.K [v, .ty t.nm] H1 Q) (fun G H d v d' Q l r e q => ?_) s1 r1 q1
  cases h : isiD d t with
  | none => simp only [h] at e; cases e
  | some b =>
    simp only [h] at e
    cases e
    obtain ⟨y, k1, k2⟩ := isi_ty l r h
    exact ⟨v, .ty t.nm, .type y, .type t.nm, b, rfl, .ty _, k1, k2 t b h, q _ G H (Grow.refl l) (.bl _)⟩
def isi2 (t u : Ty5) (o : Opd) : M D := doOp1 (fun d => (isiAny d [t, u]).map .bool) o
theorem se_isi2 {t u : Ty5} {k : Nat} {p2 p3 : Pos} (ha : SO T X a ma) (na : notStar a = true) (hg0 : Gl X "isinstance") (hm0 : X.mg "isinstance" = none) (hg : Gl X t.ns) (hm : X.mg t.ns = none) (hg' : Gl X u.ns) (hm' : X.mg u.ns = none) :
    SE T X (.Call (.Name "isinstance" p) [a, .Tuple [.Name t.ns p1, .Name u.ns p2] k p3] [] pos) (M.bind ma (isi2 t u)) := fun F tk =>
  PE.weak (pe_callB call_isiT hg0 hm0 PyProof.Rows.boot_isinstance (pa_cons (ha F tk) (pa_cons (pe_tup (pa_cons (pe_ty5 hg hm) (pa_cons (pe_ty5 hg' hm') pa_nil rfl) rfl)) pa_nil rfl) (star_cons na)) (by decide) (by decide) (star_cons na) rfl) fun σ H Q ⟨e, G, s, q⟩ => by
  refine ⟨e, G, s, (Aft.bind q).mono fun v H1 ⟨o, e1, G1, s1, l1, r1, q1⟩ => ?_⟩
  refine aft_op1 (r := fun v H1 Q => 2 ≤ sizeLine ∧ ∀ pt, H1 pt = none → rIsiT X.K [v, .ref pt] (upd H1 pt (.tup [.ty t.nm, .ty u.nm])) Q) (fun G H d v d' Q l r e q => ?_) s1 r1 q1
  refine ⟨by decide, fun pt np => ?_⟩
  cases h : isiAny d [t, u] with
  | none => simp only [h] at e; cases e
  | some b =>
    simp only [h] at e
    cases e
    have w := Grow.hid l np (.tup [.ty t.nm, .ty u.nm])
    have r' : RB X.K G (upd H pt (.tup [.ty t.nm, .ty u.nm])) d v := by
      rcases r with r | ⟨a, rfl, o⟩
      · exact .inl r
      · exact .inr ⟨a, rfl, o.mono LeG.refl o.free fun u q => w.h a u q⟩
    obtain ⟨b1, h1⟩ : ∃ b1, isiD d t = some b1 := by
      unfold isiAny at h
      cases h1 : isiD d t with
      | none => rw [h1] at h; cases h
      | some b1 => exact ⟨b1, rfl⟩
    obtain ⟨y, k1, k2⟩ := isi_ty w.le r' h1
    refine ⟨v, pt, [.ty t.nm, .ty u.nm], .type y, [.type t.nm, .type u.nm], b, rfl, upd_same, .cons (.ty _) (.cons (.ty _) .nil), k1, kitAny_of k2 h, q _ G _ w (.bl _)⟩
end
end Tp
/-! Tq1: sorted(set(xs)) of onlyI, any number of them (fewer than 4000). -/
namespace Tp
open PySem PySem.Spec PyProof.Rows L2
/-- a set just made -/
abbrev fs (w : World) : Obj := { cls := .type "set", dict := none, data := .set #[] 0 (.fresh 0 0 (!w.params.followText "set-order")) }
section
variable {P : Program} {w : World} {A : Around} {E : Value → Shared → Prop} {s : Shared}
/-- what the set's filling leaves -/
def Filled (w : World) (s s2 : Shared) (ns : List Int) : Prop :=
  ∃ hp tk c, s2 = { s with heap := hp, toks := tk } ∧ SetR w hp s.heap.objs.size (fun j => decide (j ∈ ns)) c ∧ c ≤ ns.length ∧ ∀ b u, s.heap.get? b = some u → hp.get? b = some u
theorem new_at (w : World) (h : Heap) : (h.push (fs w)).get? h.objs.size = some (fs w) := Heap.get?_push_size _ rfl
/-- the walk over the list fills it -/
theorem fill_list {B : Around} {l : Addr} {xs : Array Value} {ns : List Int} {R : Result → Shared → Prop} (hB : B.in1.handled = none) (hl : s.heap.IsList l xs) (onlyI : IntsAre xs.toList ns) (few : ns.length + 1 < scanBound)
    (hR : ∀ s2, Filled w s s2 ns → R (.ok (.ret .none)) s2) :
    codeAny (model P w) B (.builtin "set.update.loop" ⟨[.ref s.heap.objs.size, .ref (s.heap.push (fs w)).objs.size], []⟩) R
      { s with heap := (s.heap.push (fs w)).push { cls := .type "list_iterator", data := .fields #[.ref l, .int 0 0] } } := by
  have size_eq : xs.size = ns.length := by
    have q := onlyI.length
    rwa [Array.length_toList] at q
  obtain ⟨o, hol, _⟩ := id hl
  have low : l < s.heap.objs.size := Heap.lt_size hol
  have top : (s.heap.push (fs w)).objs.size = s.heap.objs.size + 1 := Heap.size_push ..
  have apart : l ≠ (s.heap.push (fs w)).objs.size := by
    rw [top]
    exact Nat.ne_of_lt (Nat.lt_succ_of_lt low)
  have clear : s.heap.objs.size ∉ [(s.heap.push (fs w)).objs.size, l] := by
    simp only [List.mem_cons, List.not_mem_nil, or_false, not_or, top]
    exact ⟨Nat.ne_of_lt (Nat.lt_succ_self _), Nat.ne_of_gt low⟩
  have item : ∀ (i : Nat) (v : Value), xs[i]? = some v → ∃ k t, ns[i]? = some k ∧ v = .int k t := fun i v hv => by
    have below : i < ns.length := size_eq ▸ (Array.getElem?_eq_some_iff.mp hv).1
    obtain ⟨t, e⟩ := IntsAre.int_at onlyI i v (by rw [Array.getElem?_toList]; exact hv)
    refine ⟨ns[i], t, List.getElem?_eq_getElem below, ?_⟩
    rw [e, List.getD_eq_getElem?_getD, List.getElem?_eq_getElem below]
    rfl
  have later : (s.heap.push (fs w)).IsList l xs := hl.push _
  have there : ((s.heap.push (fs w)).push { cls := .type "list_iterator", data := .fields #[.ref l, .int 0 0] }).get? s.heap.objs.size = some (fs w) := Heap.get?_push_of_some _ (new_at w s.heap)
  refine set_update_ints ((Walks.list hB _ l apart xs).toS) s.heap.objs.size clear ns size_eq few item (xs.size - 0) 0 _ (by omega) (Nat.zero_le _) ⟨⟨_, Heap.get?_push_size _ rfl, rfl, rfl⟩, later.push _⟩ ⟨0, Nat.le_refl 0, setR_new_at there⟩ fun s2 c moved hc full => hR s2 ?_
  obtain ⟨h2, g2, d2, t2, o2⟩ := s2
  have e1 : g2 = s.gens := moved.gens
  have e2 : d2 = s.drawn := moved.drawn
  have e3 : o2 = s.os := moved.os
  subst e1 e2 e3
  refine ⟨h2, t2, c, rfl, full, size_eq ▸ hc, fun b u e => ?_⟩
  have lb := Heap.lt_size e
  refine moved.heap b u ?_ (Heap.get?_push_of_some _ (Heap.get?_push_of_some _ e))
  simp only [List.mem_cons, List.not_mem_nil, or_false, not_or, top]
  exact ⟨Nat.ne_of_lt lb, Nat.ne_of_lt (Nat.lt_succ_of_lt lb)⟩
theorem set_of_list {l : Addr} {xs : Array Value} {ns : List Int} {Q : Value → Shared → Prop} (cold : A.handled = none) (hl : s.heap.IsList l xs) (onlyI : IntsAre xs.toList ns) (few : ns.length + 1 < scanBound)
    (hQ : ∀ s2, Filled w s s2 ns → Q (.ref s.heap.objs.size) s2) : wpAny (model P w) A (call (.type "set") [.ref l]) Q E s := by
  obtain ⟨c0, rest, order⟩ := F.called_set.mro
  have f1 := F.called_set.made
  have f2 := F.called_set.sub
  have f3 := F.called_set.notType
  have f4 := F.called_set.canCreate
  have f5 := F.typeCall_set_1 (.ref l)
  refine wpAny_call (codeAny_of_tree (show wpAny _ _ (callAny (.type "set") _) _ _ _ from wpAny_pure ⟨Code.quiet_builtin _ (by decide +kernel), codeAny_builtin F.entry_type_call ?_⟩))
  rw [Around.under_plain (weight_type_call_type "set" [.ref l] []) rfl]
  repeat (any_goals (first | assumption | wp_step))
  refine codeAny_mono (code_set_led1 (.ref l) (E := E) (Q₁ := fun v s1 => v = .ref s.heap.objs.size ∧ s1 = { s with heap := s.heap.push (fs w) }) ⟨rfl, rfl⟩) fun out s1 made => ?_
  cases out with
  | error e => exact made
  | ok fl =>
    cases fl with
    | ret v =>
      obtain ⟨rfl, rfl⟩ := made
      have is_set : Shared.TypeIs { s with heap := s.heap.push (fs w) } (.ref s.heap.objs.size) "set" := ⟨_, new_at w s.heap, rfl⟩
      have f6 := F.called_set.init.lookup
      have f7 := F.called_set.init.bind (.ref s.heap.objs.size)
      have the_set := new_at w s.heap
      repeat (any_goals (first | assumption | wp_step))
      refine codeAny_mono (codeAny_call_builtin (R := wants (fun r s2 => r = .none ∧ Filled w s s2 ns) E) F.called_set.init.plain F.entry_set_init (check_set_init_1 is_set ?_)) fun out2 s2 done2 => ?_
      · obtain ⟨⟨k1, k2, k3, k4⟩, got, k5, m, k6⟩ := id hl
        simp only at k5 k6
        subst k5 k6
        have got2 : (s.heap.push (fs w)).get? l = some { cls := .type "list", dict := k2, data := .seq xs m, slots := k4 } := Heap.get?_push_of_some _ got
        have f8 := F.sub_list_set
        have f9 := F.sub_list_frozenset
        have differ : (Value.type "list" == Value.type "dict") = false := by decide
        have later : (s.heap.push (fs w)).IsList l xs := ⟨_, got2, rfl, m, rfl⟩
        unfold Builtin.«set.__init__» noKeywords Builtin.Frozenset.updateFrom
        generalize walk_ : pyIter = W_
        wp_walk
        subst walk_
        refine wpAny_pyIter_list later (wpAny_bind (wpAny_runValue ?_))
        refine fill_list (by simp [cold]) hl onlyI few fun s2 full => ?_
        show wpAny _ _ _ _ _ _
        refine wpAny_pure ?_
        show wpAny _ _ (ret Value.none) _ _ _
        exact wpAny_pure ⟨rfl, full⟩
      · cases out2 with
        | error e => exact done2
        | ok fl2 =>
          cases fl2 with
          | ret r =>
            obtain ⟨rfl, full⟩ := done2
            obtain ⟨hp, tk, c, rfl, z1, z2, z3⟩ := id full
            repeat (any_goals (first | assumption | wp_step))
            exact hQ _ full
          | _ => exact done2.elim
    | _ => exact made.elim
theorem inc_of : ∀ l : List Int, l.Pairwise (· ≤ ·) → l.Nodup → l.Pairwise (· < ·) := lt_of_le_nodup
theorem sorted_members {a : Addr} {S : Int → Bool} {n : Nat} {Q : Value → Shared → Prop} (full : SetR w s.heap a S n) (cold : A.handled = none)
    (hQ : ∀ s2 p (got : Array Value) (c : Nat) (ns : List Int), (∀ b u, s.heap.get? b = some u → s2.heap.get? b = some u) → s2.gens = s.gens → s2.os = s.os → s.heap.objs.size ≤ p →
      s2.heap.get? p = some (seqObj "list" got c) → IntsAre got.toList ns → ns.Pairwise (· < ·) → (∀ k, k ∈ ns ↔ S k = true) → Q (.ref p) s2) :
    wpAny (model P w) A (call (.builtin "sorted") [.ref a]) Q E s := by
  obtain ⟨ob, ents, ep, tab, at_a, exact_, dat, good, nodup, mems, small, fit, count, rise, led⟩ := full
  refine Calls.call_function_entry kind_sorted plain_sorted entry_sorted (args_sorted1 _) ?_
  unfold Builtin.«sorted»
  refine wpAny_bind (m := checkCount "sorted" 1 1 _) (wpAny_pure (wpAny_bind (collect_set (A := A.in1) cold ⟨ob, at_a, exact_.1, dat⟩ fit small rise led fun s1 vs keep1 up1 g1 o1 perm1 => ?_)))
  have vs_len : vs.length = ents.size := by rw [perm1.length_eq, List.length_map, Array.length_toList]
  have vs_ok : vs.length ≤ sizeLine := by
    rw [vs_len]
    exact Nat.le_trans (Nat.le_of_lt small) (by decide)
  have vs_int : IntsAre vs (vs.map Builtin.Re.reRawOf) := ints_of vs fun v hv => by
    obtain ⟨en, hen, rfl⟩ := List.mem_map.mp (perm1.mem_iff.mp hv)
    obtain ⟨k, tk, e1, _⟩ := good en hen
    exact ⟨k, tk, e1⟩
  have raw : (vs.map Builtin.Re.reRawOf).Perm (ents.toList.map keyOf) := by
    have := perm1.map Builtin.Re.reRawOf
    rwa [List.map_map] at this
  refine wpAny_bind (wpAny_newList ?_ vs_ok)
  have fresh_list : (s1.heap.push (seqObj "list" vs.toArray 0)).get? s1.heap.objs.size = some (seqObj "list" vs.toArray 0) := Heap.get?_push_size _ rfl
  refine wpAny_bind (wpAny_holding (wpAny_call_entry slot_list_sort ⟨_, fresh_list, rfl⟩ entry_list_sort (SrtO.list_sort_ord SrtO.swo_int fresh_list vs_ok (fun two => SrtO.ints_sortable vs_int two) fun got inc stab => ⟨_, rfl, ?_⟩) (args_list_sort _)))
  obtain ⟨z1, z2, z3⟩ := SrtO.ints_out vs_int inc stab
  obtain ⟨c, at_p⟩ := sortedHeap_at (vs := vs) (out := got.toArray) fresh_list
  have whole := z2.trans raw
  refine wpAny_pure ⟨_, rfl, hQ _ s1.heap.objs.size got.toArray c (got.map SrtO.iv) (fun b u e => ?_) g1 o1 up1 at_p (by simpa using z1) (inc_of _ z3 (whole.nodup_iff.mpr nodup)) fun k => by rw [whole.mem_iff, ← mems k]⟩
  have e1 := keep1 b u e
  have lb := Heap.lt_size e1
  show (sortedHeap (s1.heap.push (seqObj "list" vs.toArray 0)) s1.heap.objs.size vs got.toArray).get? b = some u
  rw [sortedHeap_old (Nat.ne_of_lt lb) (by rw [Heap.size_push]; exact Nat.lt_succ_of_lt lb)]
  exact Heap.get?_push_of_some _ e1
end
/-! ### the same in plain words -/
def insI (x : Int) : List Int → List Int
  | [] => [x]
  | y :: l => if x < y then x :: y :: l else if x = y then y :: l else y :: insI x l
def sortI : List Int → List Int
  | [] => []
  | x :: l => insI x (sortI l)
theorem insI_mem {x k : Int} : ∀ {l : List Int}, k ∈ insI x l ↔ k = x ∨ k ∈ l
  | [] => by simp [insI]
  | y :: l => by
    unfold insI
    split
    · simp
    · split
      · rename_i h
        subst h
        simp
      · rw [List.mem_cons, insI_mem, List.mem_cons]
        exact ⟨fun z => by rcases z with z | z | z <;> simp [z], fun z => by rcases z with z | z | z <;> simp [z]⟩
theorem insI_inc {x : Int} : ∀ {l : List Int}, l.Pairwise (· < ·) → (insI x l).Pairwise (· < ·)
  | [], _ => List.pairwise_singleton _ _
  | y :: l, h => by
    obtain ⟨h1, h2⟩ := List.pairwise_cons.mp h
    unfold insI
    split
    · rename_i hx
      refine List.pairwise_cons.mpr ⟨fun z hz => ?_, h⟩
      rcases List.mem_cons.mp hz with e | hz
      · subst e
        exact hx
      · exact Int.lt_trans hx (h1 z hz)
    · split
      · exact h
      · rename_i n1 n2
        refine List.pairwise_cons.mpr ⟨fun z hz => ?_, insI_inc h2⟩
        rcases insI_mem.mp hz with e | hz
        · subst e
          omega
        · exact h1 z hz
theorem sortI_mem {k : Int} : ∀ {l : List Int}, k ∈ sortI l ↔ k ∈ l
  | [] => Iff.rfl
  | x :: l => by
    show k ∈ insI x (sortI l) ↔ _
    rw [insI_mem, sortI_mem, List.mem_cons]
theorem sortI_inc : ∀ l : List Int, (sortI l).Pairwise (· < ·)
  | [] => .nil
  | x :: l => insI_inc (sortI_inc l)
theorem inc_unique : ∀ {l r : List Int}, l.Pairwise (· < ·) → r.Pairwise (· < ·) → (∀ k, k ∈ l ↔ k ∈ r) → l = r
  | [], [], _, _, _ => rfl
  | [], y :: r, _, _, h => by have := (h y).mpr List.mem_cons_self; cases this
  | x :: l, [], _, _, h => by have := (h x).mp List.mem_cons_self; cases this
  | x :: l, y :: r, h1, h2, h => by
    obtain ⟨a1, a2⟩ := List.pairwise_cons.mp h1
    obtain ⟨b1, b2⟩ := List.pairwise_cons.mp h2
    have e : x = y := by
      rcases List.mem_cons.mp ((h x).mp List.mem_cons_self) with e | m1
      · exact e
      · rcases List.mem_cons.mp ((h y).mpr List.mem_cons_self) with e | m2
        · exact e.symm
        · have := b1 x m1
          have := a1 y m2
          omega
    subst e
    refine congrArg (x :: ·) (inc_unique a2 b2 fun k => ⟨fun m => ?_, fun m => ?_⟩)
    · rcases List.mem_cons.mp ((h k).mp (List.mem_cons_of_mem _ m)) with e | z
      · subst e
        have := a1 k m
        omega
      · exact z
    · rcases List.mem_cons.mp ((h k).mpr (List.mem_cons_of_mem _ m)) with e | z
      · subst e
        have := b1 k m
        omega
      · exact z
theorem sortI_len : ∀ l : List Int, (sortI l).length ≤ l.length
  | [] => Nat.le_refl _
  | x :: l => by
    have : ∀ r : List Int, (insI x r).length ≤ r.length + 1 := fun r => by
      induction r with
      | nil => exact Nat.le_refl _
      | cons y r ih =>
        unfold insI
        split
        · simp
        · split
          · simp
          · simp only [List.length_cons]
            omega
    exact Nat.le_trans (this _) (Nat.succ_le_succ (sortI_len l))
/-! ### sorted(set(e)) -/
section
variable {X : Cx} {a : Expr} {ta : TE} {p p2 q pos : Pos}
def tSrt (K : Fg) (ta : TE) : TE := fun σ H Q => ta σ H fun x H1 => ∃ (l : Addr) (ns : List Int), x = V.ref l ∧ SqL K H1 l (ns.map V.int) ∧ ns.length < 4000 ∧ ∀ b, H1 b = none → Q (.ref b) (upd H1 b (.lst ((sortI ns).map V.int)))
theorem pe_srt (hg : Gl X "sorted") (hm : X.mg "sorted" = none) (hg2 : Gl X "set") (hm2 : X.mg "set" = none) (calm : X.calm = true) (ha : PE X a ta) (na : starEach [a] X.env = (false, eval a X.env) :: starEach [] X.env) :
    PE X (.Call (.Name "sorted" p) [.Call (.Name "set" p2) [a] [] q] [] pos) (tSrt X.K ta) := by
  refine ⟨fun pins s σ H Q I h => Call_ (ld_blt I hg hm PyProof.Rows.boot_sorted ?_)⟩
  refine PyProof.Rows.callWith_builtin1 (PyProof.Rows.args_cons (Call_ (ld_blt I hg2 hm2 PyProof.Rows.boot_set ?_)) rfl) rfl rfl
  refine PyProof.Rows.callWith_type1 (PyProof.Rows.args_cons (thn (ha.run pins s σ H _ I h) fun v s1 ⟨x, H1, I1, r1, q1⟩ => PyProof.Rows.args_nil ?_) na) na rfl
  obtain ⟨l, ns, rfl, sq, few, q1⟩ := q1
  cases r1
  obtain ⟨its, rv, pl, hz⟩ := I1.list sq
  have cold := I1.ok.hd calm
  refine set_of_list cold pl.isList (ns := ns) (by simpa using rv.ints) (by unfold scanBound; omega) fun s2 full => PyProof.Rows.args_nil ?_
  obtain ⟨hp, tk, c, rfl, members, cl, keep⟩ := full
  have I2 : Inv X pins σ H1 { s1 with heap := hp, toks := tk } := I1.kept keep
  refine sorted_members members cold fun s3 pp got cc ms keep3 g3 o3 up3 at3 int3 inc3 mem3 => ?_
  have same : ms = sortI ns := inc_unique inc3 (sortI_inc ns) fun k => by rw [mem3, sortI_mem, decide_eq_true_eq]
  subst same
  have len3 : ((sortI ns).map V.int).length ≤ sizeLine := by
    rw [List.length_map]
    exact Nat.le_trans (sortI_len ns) (Nat.le_trans (Nat.le_of_lt few) (by decide))
  have new : H1 pp = none := I2.hok.fresh up3
  have e3 : s3 = { s1 with heap := s3.heap, gens := s3.gens, drawn := s3.drawn, toks := s3.toks } := by
    cases s3
    cases s1
    cases o3
    rfl
  have I3 : Inv X pins σ (upd H1 pp (.lst ((sortI ns).map V.int))) { ({ s1 with heap := hp, toks := tk } : Shared) with heap := s3.heap, gens := s3.gens, drawn := s3.drawn, toks := s3.toks } :=
    I2.call (ch := []) (Un.laid keep3 up3 new) (I2.hok.laid keep3 up3 ⟨len3, got.toList, cc, vals_of_ints int3, at3⟩) (by rw [g3]; exact I2.bare) (fun _ z => nomatch z)
  rw [e3]
  exact ⟨.ref pp, _, I3, rfl, q1 pp new⟩
end
end Tp
/-! Tq2: sorted(set(e)) by data. -/
namespace Tp
open PySem PySem.Spec PyProof.Rows L2
def srtD : D → Option D
  | .list ds => (intsOf ds).bind fun ns => if ns.length < 4000 then some (.list ((sortI ns).map .int)) else none
  | _ => none
section
variable {T : ExcT} {X : Cx} {a : Expr} {ma : M Opd} {p p2 q pos : Pos}
theorem rds_ints {K : Fg} {G : Hp} : ∀ ns : List Int, RDs K G (ns.map .int) (ns.map V.int)
  | [] => .nil
  | n :: ns => .cons (.int n) (rds_ints ns)
theorem se_srt (hg : Gl X "sorted") (hm : X.mg "sorted" = none) (hg2 : Gl X "set") (hm2 : X.mg "set" = none) (calm : X.calm = true) (na : notStar a = true) (ha : SO T X a ma) :
    SE T X (.Call (.Name "sorted" p) [.Call (.Name "set" p2) [a] [] q] [] pos) (M.bind ma fun o => doOp1 srtD o) := fun F tk =>
  PE.weak (pe_srt hg hm hg2 hm2 calm (ha F tk) (star_cons na)) fun σ H Q ⟨e, G, s, q⟩ => by
  refine ⟨e, G, s, (Aft.bind q).mono fun v1 H1 ⟨o1, e1, G1, s1, l1, r1, q1⟩ => ?_⟩
  refine aft_op1 (r := fun x H1 Q => ∃ (l : Addr) (ns : List Int), x = V.ref l ∧ SqL X.K H1 l (ns.map V.int) ∧ ns.length < 4000 ∧ ∀ b, H1 b = none → Q (.ref b) (upd H1 b (.lst ((sortI ns).map V.int)))) (fun G H d v d' Q l r e q => ?_) s1 r1 q1
  cases d <;> simp only [srtD] at e
  case list ds =>
    cases hi : intsOf ds with
    | none => rw [hi] at e; cases e
    | some ns =>
      rw [hi] at e
      simp only [Option.bind_some] at e
      split at e
      · rename_i few
        cases e
        obtain ⟨b, xs, rfl, h1, h2⟩ := r.list l
        have ev := intsOf_vals hi h2
        subst ev
        refine ⟨b, ns, rfl, h1.sq, few, fun p np => ?_⟩
        have w := Grow.one l np (.lst ((sortI ns).map V.int))
        exact q _ _ _ w (.lst (.inl (.inl upd_same)) (rds_ints _))
      · cases e
  all_goals cases e
end
end Tp
/-! Tp13: the position-free form of expressions: what it means, whether a written expression has it, and that it then does what it means. -/
namespace Tp
open PySem PySem.Spec PyProof.Rows L2
inductive BOp where
  | add | sub | mul | div | mod | pow
  deriving DecidableEq
inductive COp where
  | lt | le | gt | ge | eq | ne | is_ | isnot | in_ | notin
  deriving DecidableEq
inductive Bi where
  | len | abs | int | str | max | min | sum | all | tuple | list
  deriving DecidableEq
inductive IE where
  | lit (d : D)
  | var (i : Nat)
  | frz (i : Nat)
  | glob (x : Str)
  | nil
  | cons (a b : IE)
  | tup (es : IE)
  | lst (es : IE)
  | bin (o : BOp) (a b : IE)
  | neg (a : IE)
  | cmp (o : COp) (a b : IE)
  | chain (o1 o2 : COp) (a b c : IE)
  | and_ (es : IE)
  | or_ (es : IE)
  | not_ (a : IE)
  | ifx (c a b : IE)
  | ix (a b : IE)
  | slc (a lo hi : IE)
  | rev (a : IE)
  | call (g : Nat) (es : IE)
  | look (g : Nat) (es : IE)
  | bi (b : Bi) (es : IE)
  | isi1 (t : Ty5) (a : IE)
  | isi2 (t u : Ty5) (a : IE)
  | lc (t : Tgt) (own : List Nat) (elt iter cond : IE)
  | rng (es : IE)
  | zip2 (es : IE)
  | srt (a : IE)
def BOp.f : BOp → D → D → Option D
  | .add => addD | .sub => subD | .mul => mulI | .div => divD | .mod => modD | .pow => powD
def BOp.op : BOp → Operator
  | .add => .Add | .sub => .Sub | .mul => .Mult | .div => .FloorDiv | .mod => .Mod | .pow => .Pow
def COp.f : COp → D → D → Option D
  | .lt => cmpI fun i j => decide (i < j) | .le => cmpI fun i j => decide (i ≤ j) | .gt => cmpI fun i j => decide (j < i) | .ge => cmpI fun i j => decide (j ≤ i)
  | .eq => eqD | .ne => neD | .is_ => isND | .isnot => notND | .in_ => inD | .notin => notInD
def COp.op : COp → CmpOp
  | .lt => .Lt | .le => .LtE | .gt => .Gt | .ge => .GtE | .eq => .Eq | .ne => .NotEq | .is_ => .Is | .isnot => .IsNot | .in_ => .In | .notin => .NotIn
def Bi.f : Bi → List D → Option D
  | .len => lenD | .abs => absD | .int => intD | .str => strD | .max => maxD | .min => minD | .sum => sumD | .all => allD | .tuple => tupleD | .list => listD
def Bi.ns : Bi → Str
  | .len => "len" | .abs => "abs" | .int => "int" | .str => "str" | .max => "max" | .min => "min" | .sum => "sum" | .all => "all" | .tuple => "tuple" | .list => "list"
/-- what is known of the defs and constants of the text -/
structure FnI where
  name : Str
  io : Option Nat
  own : Bool
structure PgI where
  fn : Nat → Option FnI
  gl : List (Str × D)
structure Den where
  e : M D
  o : M Opd
  a : M (List Opd)
  s : M Src
  ands : M D
  ors : M D
def Den.of (m : M D) : Den := ⟨m, M.bind m fun d => M.pure (.inl d), M.stuck, M.bind (M.bind m fun d => M.pure (.inl d)) asSrc, m, m⟩
def Den.b (d : Den) : M Bool := M.bind d.e asB
def isNil : IE → Bool
  | .nil => true
  | _ => false
def noOwn (m : M Src) : M Src := M.bind m fun p => if p.2 = none then M.pure p else M.stuck
/-- an expression that leaves the slots as they are -/
def pureIE (P : PgI) : IE → Bool
  | .lit _ => true
  | .var _ => true
  | .frz _ => false
  | .glob _ => true
  | .nil => true
  | .cons a b => pureIE P a && pureIE P b
  | .tup es => pureIE P es
  | .lst es => pureIE P es
  | .bin _ a b => pureIE P a && pureIE P b
  | .neg a => pureIE P a
  | .cmp _ a b => pureIE P a && pureIE P b
  | .chain _ _ a b c => pureIE P a && pureIE P b && pureIE P c
  | .and_ es => pureIE P es
  | .or_ es => pureIE P es
  | .not_ a => pureIE P a
  | .ifx c a b => pureIE P c && pureIE P a && pureIE P b
  | .ix a b => pureIE P a && pureIE P b
  | .slc a l h => pureIE P a && pureIE P l && pureIE P h
  | .rev a => pureIE P a
  | .call g es => (match P.fn g with | some i => i.io.isNone | none => false) && pureIE P es
  | .look _ es => pureIE P es
  | .bi _ es => pureIE P es
  | .isi1 _ a => pureIE P a
  | .isi2 _ _ a => pureIE P a
  | .lc .. => false
  | .rng es => pureIE P es
  | .zip2 es => pureIE P es
  | .srt a => pureIE P a
def arity : IE → Nat
  | .cons _ b => arity b + 1
  | _ => 0
def rngA (n : Nat) (os : List Opd) : M Src := if os.length = n then asRng os else M.stuck
def slcB (d : Den) (n : Bool) : M (Option Int) := if n then M.pure none else M.bind d.e asI
/-- what an expression means; cf: what the defs give -/
def den (P : PgI) (cf : Nat → List D → FRes) : IE → Den
  | .lit d => .of (M.pure d)
  | .var i => { e := mVar i, o := mVarO i, a := M.stuck, s := M.bind (mVarO i) asSrc, ands := mVar i, ors := mVar i }
  | .frz i => .of (mFrz i)
  | .glob x => .of (M.of (P.gl.lookup x))
  | .nil => { e := M.stuck, o := M.stuck, a := M.pure [], s := M.stuck, ands := M.stuck, ors := M.stuck }
  | .cons a b =>
    let x := den P cf a
    let y := den P cf b
    { e := M.stuck, o := M.stuck, a := M.bind x.o fun o => M.bind y.a fun os => M.pure (o :: os), s := M.stuck,
      ands := if isNil b then x.e else M.bind x.b fun k => if k then y.ands else M.pure (.bool false),
      ors := if isNil b then x.e else M.bind x.b fun k => if k then M.pure (.bool true) else y.ors }
  | .tup es => .of (M.bind (den P cf es).a mkTup)
  | .lst es => .of (M.bind (den P cf es).a mkLst)
  | .bin o a b => .of (M.bind (den P cf a).o fun o1 => M.bind (den P cf b).o fun o2 => doOp2 o.f o1 o2)
  | .neg a => .of (M.bind (den P cf a).o fun o => doOp1 negD o)
  | .cmp o a b => .of (M.bind (den P cf a).o fun o1 => M.bind (den P cf b).o fun o2 => doOp2 o.f o1 o2)
  | .chain o o' a b c => .of (M.bind (den P cf a).o fun o1 => M.bind (den P cf b).o fun o2 => M.bind (M.bind (doOp2 o.f o1 o2) asB) fun k => if k then M.bind (den P cf c).o fun o3 => doOp2 o'.f o2 o3 else M.pure (.bool false))
  | .and_ es => .of (den P cf es).ands
  | .or_ es => .of (den P cf es).ors
  | .not_ a => .of (M.bind (den P cf a).b fun k => M.pure (.bool !k))
  | .ifx c a b => .of (M.bind (den P cf c).b fun k => if k then (den P cf a).e else (den P cf b).e)
  | .ix a b => .of (M.bind (den P cf a).o fun o1 => M.bind (den P cf b).o fun o2 => doOp2 ixD o1 o2)
  | .slc a l h => .of (M.bind (den P cf a).o fun o => M.bind (slcB (den P cf l) (isNil l)) fun lo => M.bind (slcB (den P cf h) (isNil h)) fun hi => doSlc o lo hi)
  | .rev a => .of (M.bind (den P cf a).o fun o => doOp1 revD o)
  | .call g es => .of (match P.fn g with | some i => M.bind (den P cf es).a (callM i.io (cf g)) | none => M.stuck)
  | .look g es => .of (M.bind (den P cf es).a (callS (cf g)))
  | .bi b es => .of (M.bind (den P cf es).a (doOpN b.f))
  | .isi1 t a => .of (M.bind (den P cf a).o (Tp.isi1 t))
  | .isi2 t u a => .of (M.bind (den P cf a).o (Tp.isi2 t u))
  | .lc t own elt iter cond =>
    let mi := (den P cf iter).s
    let mc := if isNil cond then M.pure true else (den P cf cond).b
    .of (lcM (if pureIE P elt && pureIE P cond then mi else noOwn mi) t own mc (den P cf elt).e)
  | .rng es => { e := M.stuck, o := M.stuck, a := M.stuck, s := M.bind (den P cf es).a (rngA (arity es)), ands := M.stuck, ors := M.stuck }
  | .zip2 es => { e := M.stuck, o := M.stuck, a := M.stuck, s := M.bind (den P cf es).a asZip, ands := M.stuck, ors := M.stuck }
  | .srt a => .of (M.bind (den P cf a).o fun o => doOp1 srtD o)
/-! ### does a written expression have the form? -/
structure MC where
  N : List Str
  sc : Scope
  fnAll : Bool
def isVar (c : MC) (i : Nat) (x : Str) : Bool := decide (c.N[i]? = some x) && (match c.sc.names.lookup x with | some .local => true | some .cell => true | some .free => true | _ => false) && !(x == ("__debug__" : Str)) && !(x == ("__classdict__" : Str))
def isTgt (c : MC) (i : Nat) (x : Str) : Bool := decide (c.N[i]? = some x) && (match c.sc.names.lookup x with | some .local => true | some .cell => c.fnAll | _ => false)
def isGl (c : MC) (x : Str) : Bool := (match c.sc.names.lookup x with | some .globalImplicit => true | _ => false) && !(x == ("__debug__" : Str))
def isTgts (c : MC) : List Nat → List Expr → Bool
  | [], [] => true
  | i :: is, .Name x _ :: es => isTgt c i x && isTgts c is es
  | _, _ => false
def mTgt (c : MC) (t : Tgt) (e : Expr) : Bool := match t, e with
  | .one i, .Name x _ => isTgt c i x
  | .many is, .Tuple es _ _ => isTgts c is es
  | _, _ => false
structure Mt where
  e : MC → Expr → Bool
  a : MC → List Expr → Bool
  s : MC → Expr → Bool
  /-- may it stand as a test? -/
  tb : Bool
def Mt.of (f : MC → Expr → Bool) (tb : Bool := true) : Mt := ⟨f, fun _ _ => false, f, tb⟩
def litM : D → Expr → Bool
  | .none, .Constant .none _ _ => true
  | .bool b, .Constant (.bool b') _ _ => b == b'
  | .int i, .Constant (.int j) _ _ => decide (i = j)
  | .str x, .Constant (.str y) _ _ => decide (x = y)
  | _, _ => false
def allTb (P : PgI) (tb : IE → Bool) : IE → Bool
  | .cons a b => tb a && allTb P tb b
  | _ => true
def blkOwn (c : MC) (own : List Nat) : List (Str × Nat) := own.map fun i => (c.N.getD i "", i)
def inner (c : MC) (scope : Scope) : MC := { N := c.N, sc := relS scope c.sc, fnAll := false }
def isTupX : Expr → Bool
  | .Tuple .. => true
  | _ => false
/-- zip gives its pairs to a tuple of targets -/
def zipOk : IE → Expr → Bool
  | .zip2 _, tg => isTupX tg
  | _, _ => true
def mt (P : PgI) : IE → Mt
  | .lit d => .of fun _ e => litM d e
  | .var i => .of fun c e => match e with | .Name x _ => isVar c i x | _ => false
  | .frz i => .of fun c e => match e with | .Name x _ => isVar c i x | _ => false
  | .glob g => .of fun c e => match e with | .Name x _ => decide (x = g) && isGl c x | _ => false
  | .nil => { e := fun _ _ => false, a := fun _ es => es.isEmpty, s := fun _ _ => false, tb := true }
  | .cons a b => { e := fun _ _ => false, a := fun c es => match es with | e :: es => (mt P a).e c e && notStar e && (mt P b).a c es | _ => false, s := fun _ _ => false, tb := (mt P a).tb && (mt P b).tb }
  | .tup es => .of fun c e => match e with | .Tuple xs _ _ => (mt P es).a c xs | _ => false
  | .lst es => .of fun c e => match e with | .List xs _ => (mt P es).a c xs | _ => false
  | .bin o a b => .of fun c e => match e with | .BinOp x op y _ => decide (op = o.op) && (mt P a).e c x && (mt P b).e c y | _ => false
  | .neg a => .of fun c e => match e with | .UnaryOp .USub x _ => (mt P a).e c x | _ => false
  | .cmp o a b => .of fun c e => match e with | .Compare x [op] [y] _ => decide (op = o.op) && (mt P a).e c x && (mt P b).e c y && !behindInMarks op y | _ => false
  | .chain o o' a b d => .of fun c e => match e with | .Compare x [op, op'] [y, z] _ => decide (op = o.op) && decide (op' = o'.op) && (mt P a).e c x && (mt P b).e c y && (mt P d).e c z && !lastMarks [op, op'] [y, z] | _ => false
  | .and_ es => .of (fun c e => match e with | .BoolOp .And xs _ => (mt P es).a c xs && !xs.isEmpty | _ => false) (mt P es).tb
  | .or_ es => .of (fun c e => match e with | .BoolOp .Or xs _ => (mt P es).a c xs && !xs.isEmpty | _ => false) (mt P es).tb
  | .not_ a => .of (fun c e => match e with | .UnaryOp .Not x _ => (mt P a).e c x | _ => false) (mt P a).tb
  | .ifx t a b => .of (fun c e => match e with | .IfExp z x y _ => (mt P t).e c z && (mt P t).tb && (mt P a).e c x && (mt P b).e c y | _ => false) false
  | .ix a b => .of fun c e => match e with | .Subscript x y _ => (mt P a).e c x && (mt P b).e c y && notSlice y | _ => false
  | .slc a l h => .of fun c e => match e with
    | .Subscript x (.Slice lo hi none _) _ => (mt P a).e c x && (match lo with | none => isNil l | some y => !isNil l && (mt P l).e c y) && (match hi with | none => isNil h | some y => !isNil h && (mt P h).e c y)
    | _ => false
  | .rev a => .of fun c e => match e with | .Subscript x (.Slice none none (some (.UnaryOp .USub (.Constant (.int 1) _ _) _)) _) _ => (mt P a).e c x | _ => false
  | .call g es => .of fun c e => match e with | .Call (.Name x _) xs [] _ => (match P.fn g with | some i => decide (x = i.name) | none => false) && isGl c x && (mt P es).a c xs | _ => false
  | .look g es => .of fun c e => match e with | .Call (.Name x _) xs [] _ => (match P.fn g with | some i => decide (x = i.name) && decide (i.io = none) && !i.own | none => false) && isGl c x && (mt P es).a c xs | _ => false
  | .bi b es => .of fun c e => match e with | .Call (.Name x _) xs [] _ => decide (x = b.ns) && isGl c x && (mt P es).a c xs && !xs.isEmpty | _ => false
  | .isi1 t a => .of fun c e => match e with | .Call (.Name x _) [y, .Name z _] [] _ => decide (x = "isinstance") && isGl c x && decide (z = t.ns) && isGl c z && (mt P a).e c y && notStar y | _ => false
  | .isi2 t u a => .of fun c e => match e with | .Call (.Name x _) [y, .Tuple [.Name z _, .Name w _] _ _] [] _ => decide (x = "isinstance") && isGl c x && decide (z = t.ns) && isGl c z && decide (w = u.ns) && isGl c w && (mt P a).e c y && notStar y | _ => false
  | .lc t own elt iter cond => .of fun c e => match e with
    | .ListComp x [⟨tg, it, ifs, asy⟩] scope _ => decide (asy = 0) && (mt P iter).s c it && notSet it && zipOk iter tg && mTgt (inner c scope) t tg && (t.slots.all fun i => decide (i ∈ own)) && blkC c.N c.sc scope (blkOwn c own) && (mt P elt).e (inner c scope) x &&
        (match ifs with | [] => isNil cond | [y] => !isNil cond && (mt P cond).e (inner c scope) y && (mt P cond).tb | _ => false)
    | _ => false
  | .rng es => { e := fun _ _ => false, a := fun _ _ => false, s := fun c e => match e with | .Call (.Name x _) xs [] _ => decide (x = "range") && isGl c x && (mt P es).a c xs && (match xs with | [_] => decide (arity es = 1) | [_, _] => decide (arity es = 2) | _ => false) | _ => false, tb := true }
  | .zip2 es => { e := fun _ _ => false, a := fun _ _ => false, s := fun c e => match e with | .Call (.Name x _) xs [] _ => decide (x = "zip") && isGl c x && (mt P es).a c xs && (match xs with | [_, _] => true | _ => false) | _ => false, tb := true }
  | .srt a => .of fun c e => match e with | .Call (.Name x _) [.Call (.Name y _) [z] [] _] [] _ => decide (x = "sorted") && isGl c x && decide (y = "set") && isGl c y && notStar z && (mt P a).e c z | _ => false
end Tp
/-! Tp14: an expression that has the form does what the form means. -/
namespace Tp
open PySem PySem.Spec PyProof.Rows L2
def bltNames : List Str := ["len", "abs", "int", "str", "max", "min", "sum", "all", "tuple", "list", "isinstance", "range", "bool", "zip", "sorted", "set"]
structure Fits (T : ExcT) (P : PgI) (cf : Nat → List D → FRes) (c : MC) (X : Cx) : Prop where
  N : X.N = c.N
  sc : X.env.scope = c.sc
  nd : X.N.Nodup
  calm : X.calm = true
  un : X.A.units + 100 < cLine
  fn : c.fnAll = true → ∀ x, X.fn x = true
  defs : ∀ g i, P.fn g = some i → Def T X i.name i.io i.own (cf g)
  gls : ∀ x d, P.gl.lookup x = some d → ∃ u v, X.mg x = some u ∧ RelV v u ∧ ∀ G, RD X.K G d v
  blt : ∀ x ∈ bltNames, X.mg x = none
section
variable {T : ExcT} {P : PgI} {cf : Nat → List D → FRes} {c : MC} {X : Cx}
theorem Fits.var (f : Fits T P cf c X) {i : Nat} {x : Str} (h : isVar c i x = true) : X.N[i]? = some x ∧ Vis X.env.scope x ∧ (x == ("__debug__" : Str)) = false ∧ (x == ("__classdict__" : Str)) = false := by
  unfold isVar at h
  simp only [Bool.and_eq_true, Bool.not_eq_true', decide_eq_true_eq] at h
  obtain ⟨⟨⟨h1, h2⟩, h3⟩, h4⟩ := h
  refine ⟨by rw [f.N]; exact h1, ?_, h3, h4⟩
  unfold Vis
  rw [f.sc]
  split at h2
  · exact .inl (by assumption)
  · exact .inr (.inl (by assumption))
  · exact .inr (.inr (by assumption))
  · cases h2
theorem Fits.gl (f : Fits T P cf c X) {x : Str} (h : isGl c x = true) : Gl X x ∧ (x == ("__debug__" : Str)) = false := by
  unfold isGl at h
  rw [Bool.and_eq_true, Bool.not_eq_true'] at h
  refine ⟨?_, h.2⟩
  have h1 := h.1
  show X.env.scope.names.lookup x = _
  rw [f.sc]
  split at h1
  · assumption
  · cases h1
theorem Fits.tgt (f : Fits T P cf c X) {i : Nat} {x : Str} (h : isTgt c i x = true) : X.N[i]? = some x ∧ Loc X.env.scope x ∧ (X.fn x = true ∨ X.env.scope.names.lookup x = some .local) := by
  unfold isTgt at h
  simp only [Bool.and_eq_true, decide_eq_true_eq] at h
  obtain ⟨h1, h2⟩ := h
  refine ⟨by rw [f.N]; exact h1, ?_⟩
  unfold L2.Loc
  rw [f.sc]
  split at h2
  · rename_i hx; exact ⟨.inl hx, .inr hx⟩
  · rename_i hx; exact ⟨.inr hx, .inl (f.fn h2 x)⟩
  · cases h2
theorem Fits.tgts (f : Fits T P cf c X) : ∀ {is : List Nat} {es : List Expr}, isTgts c is es = true → SGs X es is
  | [], [], _ => .nil
  | i :: is, .Name x _ :: es, h => by
    unfold isTgts at h
    rw [Bool.and_eq_true] at h
    obtain ⟨h1, h2, h3⟩ := f.tgt h.1
    exact .cons h1 h2 h3 (f.tgts h.2)
  | [], _ :: _, h => by cases h
  | i :: is, [], h => by simp [isTgts] at h
  | i :: is, .BoolOp .. :: _, h | i :: is, .NamedExpr .. :: _, h | i :: is, .BinOp .. :: _, h | i :: is, .UnaryOp .. :: _, h | i :: is, .Lambda .. :: _, h | i :: is, .IfExp .. :: _, h
  | i :: is, .Dict .. :: _, h | i :: is, .Set .. :: _, h | i :: is, .ListComp .. :: _, h | i :: is, .SetComp .. :: _, h | i :: is, .DictComp .. :: _, h | i :: is, .GeneratorExp .. :: _, h
  | i :: is, .Await .. :: _, h | i :: is, .Yield .. :: _, h | i :: is, .YieldFrom .. :: _, h | i :: is, .Compare .. :: _, h | i :: is, .Call .. :: _, h | i :: is, .FormattedValue .. :: _, h
  | i :: is, .JoinedStr .. :: _, h | i :: is, .Constant .. :: _, h | i :: is, .Attribute .. :: _, h | i :: is, .Subscript .. :: _, h | i :: is, .Starred .. :: _, h | i :: is, .List .. :: _, h
  | i :: is, .Tuple .. :: _, h | i :: is, .Slice .. :: _, h => by simp [isTgts] at h
theorem Fits.target (f : Fits T P cf c X) {t : Tgt} {e : Expr} (h : mTgt c t e = true) : SG X e t := by
  cases t with
  | one i =>
    cases e <;> first | (simp [mTgt] at h; done) | skip
    rename_i x pos
    obtain ⟨h1, h2, h3⟩ := f.tgt (show isTgt c i x = true from h)
    exact sg_name f.nd h1 h2 h3
  | many is =>
    cases e <;> first | (simp [mTgt] at h; done) | skip
    exact sg_tup f.nd f.calm (f.tgts (show isTgts c is _ = true from h))
theorem Fits.inner (f : Fits T P cf c X) {scope : Scope} (s : Shared) (H : Hp) (C : Addr) (cl : List (Str × Addr)) (fp : List Addr) : Fits T P cf (Tp.inner c scope) (X.blk s H scope (compEnvC scope cl C X.env) fp) where
  N := f.N
  sc := by
    show relabel scope X.env = relS scope c.sc
    rw [← f.sc]
    rfl
  nd := f.nd
  calm := f.calm
  un := f.un
  fn := fun h => by cases h
  defs := fun g i h => ⟨(f.defs g i h).ex⟩
  gls := f.gls
  blt := f.blt
def plainB : Expr → Bool
  | .UnaryOp .Not _ _ => false
  | .BoolOp .. => false
  | .IfExp .. => false
  | .Compare .. => false
  | _ => true
theorem plain_true {e : Expr} {env : PySem.Env} (h : plainB e = true) : ∀ whole, isTrue e env whole = (do let v ← whole; standAt e.pos; holding [v] (truthy v)) := fun whole => by
  cases e <;> first | rfl | (cases h; done) | skip
  rename_i op x pos
  cases op <;> first | rfl | cases h
theorem bind_assoc {α β γ : Type} (m : M α) (k : α → M β) (j : β → M γ) : M.bind (M.bind m k) j = M.bind m fun a => M.bind (k a) j := by
  funext e
  unfold M.bind
  cases m e <;> rfl
theorem bind_pure {α β : Type} (a : α) (k : α → M β) : M.bind (M.pure a) k = k a := rfl
theorem bind_ite {β γ : Type} (b : Bool) (m m' : M β) (k : β → M γ) : M.bind (if b then m else m') k = if b then M.bind m k else M.bind m' k := by cases b <;> rfl
theorem asB_bool (b : Bool) : asB (.bool b) = M.pure b := rfl
structure Ok5 (T : ExcT) (P : PgI) (cf : Nat → List D → FRes) (c : MC) (X : Cx) (ie : IE) : Prop where
  e : ∀ ex, (mt P ie).e c ex = true → SE T X ex (den P cf ie).e
  o : ∀ ex, (mt P ie).e c ex = true → SO T X ex (den P cf ie).o
  b : (mt P ie).tb = true → ∀ ex, (mt P ie).e c ex = true → SB T X ex (den P cf ie).b
  a : ∀ es, (mt P ie).a c es = true → SA T X es (den P cf ie).a ∧ es.all notStar = true ∧ (es = [] → (den P cf ie).a = M.pure []) ∧ (isNil ie = true ↔ es = [])
  s : ∀ tg ex, zipOk ie tg = true → (mt P ie).s c ex = true → SI T X tg ex (den P cf ie).s
  ands : ∀ es pos, (mt P ie).a c es = true → es ≠ [] → SE T X (.BoolOp .And es pos) (den P cf ie).ands ∧ ((mt P ie).tb = true → SBW T X (.BoolOp .And es pos) (M.bind (den P cf ie).ands asB))
  ors : ∀ es pos, (mt P ie).a c es = true → es ≠ [] → SE T X (.BoolOp .Or es pos) (den P cf ie).ors ∧ ((mt P ie).tb = true → SBW T X (.BoolOp .Or es pos) (M.bind (den P cf ie).ors asB))
theorem Ok5.of' {ie : IE} {f : MC → Expr → Bool} {tb : Bool} {m : M D} (hm : mt P ie = Mt.of f tb) (hd : den P cf ie = Den.of m) (h : ∀ ex, f c ex = true → SE T X ex m) (hb : tb = true → ∀ ex, f c ex = true → SB T X ex (M.bind m asB)) : Ok5 T P cf c X ie where
  e := fun ex q => by rw [hm] at q; rw [hd]; exact h ex q
  o := fun ex q => by rw [hm] at q; rw [hd]; exact (h ex q).so
  b := fun ht ex q => by rw [hm] at q ht; rw [hd]; exact hb ht ex q
  a := fun es q => by rw [hm] at q; cases q
  s := fun tg ex _ q => by rw [hm] at q; rw [hd]; exact si_seq (h ex q).so
  ands := fun es pos q => by rw [hm] at q; cases q
  ors := fun es pos q => by rw [hm] at q; cases q
/-- .. whose test is its value's truth -/
theorem Ok5.of {ie : IE} {f : MC → Expr → Bool} {m : M D} (hm : mt P ie = Mt.of f) (hd : den P cf ie = Den.of m) (h : ∀ ex, f c ex = true → SE T X ex m ∧ plainB ex = true) : Ok5 T P cf c X ie :=
  .of' hm hd (fun ex q => (h ex q).1) fun _ ex q => (h ex q).1.sb (plain_true (h ex q).2)
theorem litM_pe {d : D} {e : Expr} (h : litM d e = true) : SE T X e (M.pure d) ∧ plainB e = true := by
  cases d with
  | none =>
    cases e <;> first | (simp [litM] at h; done) | skip
    rename_i v k pos
    cases v <;> first | (simp [litM] at h; done) | skip
    exact ⟨se_const pe_non fun _ => .non, rfl⟩
  | bool b =>
    cases e <;> first | (simp [litM] at h; done) | skip
    rename_i v k pos
    cases v <;> first | (simp [litM] at h; done) | skip
    rename_i b'
    have : b = b' := by simpa [litM] using h
    subst this
    exact ⟨se_const pe_bl fun _ => .bl _, rfl⟩
  | int i =>
    cases e <;> first | (simp [litM] at h; done) | skip
    rename_i v k pos
    cases v <;> first | (simp [litM] at h; done) | skip
    rename_i b'
    have : i = b' := by simpa [litM] using h
    subst this
    exact ⟨se_const pe_int fun _ => .int _, rfl⟩
  | str x =>
    cases e <;> first | (simp [litM] at h; done) | skip
    rename_i v k pos
    cases v <;> first | (simp [litM] at h; done) | skip
    rename_i b'
    have : x = b' := by simpa [litM] using h
    subst this
    exact ⟨se_const pe_str fun _ => .str _, rfl⟩
  | _ => simp [litM] at h
theorem bop_rule (o : BOp) : ∃ r, OpR X (binaryOp o.op) r ∧ Op2 X.K r o.f := by
  cases o with
  | add => exact ⟨_, op_addA, op2_add⟩
  | sub => exact ⟨_, op_sub, op2_sub⟩
  | mul => exact ⟨_, op_mulA, op2_mul⟩
  | div => exact ⟨_, op_fdivA, op2_div⟩
  | mod => exact ⟨_, op_modN, op2_mod⟩
  | pow => exact ⟨_, op_pow, op2_pow⟩
theorem cop_rule (hu : X.A.units + 100 < cLine) (o : COp) : ∃ r, OpR X (compareOp o.op) r ∧ Op2 X.K r o.f := by
  have h64 : X.A.units + 64 < cLine := by omega
  have h65 : X.A.units + 65 < cLine := by omega
  cases o with
  | lt => exact ⟨_, op_lt, op2_cmpI⟩
  | le => exact ⟨_, op_le, op2_cmpI⟩
  | gt => exact ⟨_, op_gt, op2_cmpI⟩
  | ge => exact ⟨_, op_ge, op2_cmpI⟩
  | eq => exact ⟨_, op_eqD h64, op2_eq⟩
  | ne => exact ⟨_, op_neD h64, op2_ne⟩
  | is_ => exact ⟨_, op_isN, op2_isN⟩
  | isnot => exact ⟨_, op_notN, op2_notN⟩
  | in_ => exact ⟨_, op_inA h65, op2_in⟩
  | notin => exact ⟨_, op_notInA h65, op2_notIn⟩
theorem boot_sum' : bootBuiltins "sum" = some (.builtin "sum") := by decide +kernel
theorem boot_all' : bootBuiltins "all" = some (.builtin "all") := by decide +kernel
theorem boot_min' : bootBuiltins "min" = some (.builtin "min") := by decide +kernel
theorem boot_max' : bootBuiltins "max" = some (.builtin "max") := by decide +kernel
theorem se_bi (f : Fits T P cf c X) (b : Bi) {es : List Expr} {ms : M (List Opd)} {p pos : Pos} (ha : SA T X es ms) (hg : Gl X b.ns) (hs : es.all notStar = true) (hne : es ≠ []) : SE T X (.Call (.Name b.ns p) es [] pos) (M.bind ms (doOpN b.f)) := by
  have hm : X.mg b.ns = none := f.blt _ (by cases b <;> simp [Bi.ns, bltNames])
  have hd : (b.ns == ("__debug__" : Str)) = false := by cases b <;> decide
  have hn : b.ns ≠ "__name__" := by cases b <;> decide
  cases b with
  | len => exact se_callB call_lenA opN_len ha hg hm PySem.boot_len hn hd hs hne
  | abs => exact se_callB call_abs opN_abs ha hg hm PyProof.Rows.boot_abs hn hd hs hne
  | int => exact se_callTy call_int1 opN_int ha hg hm PyProof.Rows.boot_int hn hd hs hne
  | str => exact se_callTy call_str_int opN_str ha hg hm PyProof.Rows.boot_str hn hd hs hne
  | max => exact se_callB (call_maxA f.calm) opN_max ha hg hm boot_max' hn hd hs hne
  | min => exact se_callB (call_minA f.calm) opN_min ha hg hm boot_min' hn hd hs hne
  | sum => exact se_callB (cr_sum f.calm) opN_sum ha hg hm boot_sum' hn hd hs hne
  | all => exact se_callB (cr_all f.calm) opN_all ha hg hm boot_all' hn hd hs hne
  | tuple => exact se_callTy call_tuple_of opN_tuple ha hg hm PyProof.Rows.boot_tuple hn hd hs hne
  | list => exact se_callTy call_list_of opN_list ha hg hm PyProof.Rows.boot_list hn hd hs hne
/-! ### pure expressions -/
theorem PureM.bind {α β : Type} {m : M α} {k : α → M β} (h : PureM m) (hk : ∀ a, PureM (k a)) : PureM (M.bind m k) := fun e b e' q => by
  unfold M.bind at q
  cases hm : m e with
  | ok a e1 =>
    rw [hm] at q
    have := h e a e1 hm
    subst this
    exact hk a _ b e' q
  | exc c x e1 => rw [hm] at q; cases q
  | stuck => rw [hm] at q; cases q
theorem PureM.pure {α : Type} (a : α) : PureM (M.pure a) := fun e b e' q => by cases q; rfl
theorem PureM.stuck {α : Type} : PureM (M.stuck : M α) := fun e b e' q => by cases q
theorem PureM.of {α : Type} (o : Option α) : PureM (M.of o) := by cases o <;> first | exact PureM.pure _ | exact PureM.stuck
theorem PureM.ite {α : Type} {b : Bool} {m m' : M α} (h : PureM m) (h' : PureM m') : PureM (if b then m else m') := by cases b <;> assumption
theorem pure_asB (d : D) : PureM (asB d) := PureM.of _
theorem pure_op1 {f : D → Option D} (o : Opd) : PureM (doOp1 f o) := fun e b e' q => by
  unfold doOp1 at q; split at q <;> cases q; rfl
theorem pure_op2 {f : D → D → Option D} (o o' : Opd) : PureM (doOp2 f o o') := fun e b e' q => by
  unfold doOp2 at q; split at q <;> cases q; rfl
theorem pure_opN {f : List D → Option D} (o : List Opd) : PureM (doOpN f o) := fun e b e' q => by
  unfold doOpN at q; split at q <;> cases q; rfl
theorem pure_asSrc (o : Opd) : PureM (asSrc o) := fun e b e' q => by
  unfold asSrc at q
  repeat' split at q
  all_goals (cases q; try rfl)
theorem pure_asRng (o : List Opd) : PureM (asRng o) := PureM.of _
theorem pure_rngA (n : Nat) (o : List Opd) : PureM (rngA n o) := by
  unfold rngA
  split
  · exact pure_asRng o
  · exact PureM.stuck
theorem pure_asZip (o : List Opd) : PureM (asZip o) := PureM.of _
theorem pure_mkTup (o : List Opd) : PureM (mkTup o) := fun e b e' q => by
  unfold mkTup at q
  repeat' split at q
  all_goals (cases q; try rfl)
theorem pure_mkLst (o : List Opd) : PureM (mkLst o) := fun e b e' q => by
  unfold mkLst at q
  repeat' split at q
  all_goals (cases q; try rfl)
theorem pure_callS {f : List D → FRes} (o : List Opd) : PureM (callS f o) := fun e b e' q => by
  unfold callS at q
  repeat' split at q
  all_goals (cases q; try rfl)
theorem pure_callM {f : List D → FRes} (o : List Opd) : PureM (callM none f o) := fun e b e' q => by
  unfold callM at q
  simp only [show ioSlot none o = none from rfl] at q
  repeat' split at q
  all_goals (cases q; try rfl)
theorem pure_var (i : Nat) : PureM (mVar i) := fun e b e' q => by
  unfold mVar at q
  repeat' split at q
  all_goals (cases q; try rfl)
theorem pure_varO (i : Nat) : PureM (mVarO i) := fun e b e' q => by
  unfold mVarO at q
  repeat' split at q
  all_goals (cases q; try rfl)
structure PureD (d : Den) : Prop where
  e : PureM d.e
  o : PureM d.o
  a : PureM d.a
  s : PureM d.s
  ands : PureM d.ands
  ors : PureM d.ors
theorem PureD.of {m : M D} (h : PureM m) : PureD (Den.of m) := ⟨h, h.bind fun _ => PureM.pure _, PureM.stuck, (h.bind fun _ => PureM.pure _).bind pure_asSrc, h, h⟩
theorem PureD.b {d : Den} (h : PureD d) : PureM d.b := h.e.bind pure_asB
theorem pure_slcB {d : Den} (h : PureD d) (n : Bool) : PureM (slcB d n) := by
  unfold slcB
  cases n with
  | true => exact PureM.pure _
  | false => exact h.e.bind fun d => PureM.of _
theorem pureD : ∀ ie : IE, pureIE P ie = true → PureD (den P cf ie)
  | .lit d, _ => .of (PureM.pure d)
  | .var i, _ => ⟨pure_var i, pure_varO i, PureM.stuck, (pure_varO i).bind pure_asSrc, pure_var i, pure_var i⟩
  | .frz i, h => by cases h
  | .glob x, _ => .of (PureM.of _)
  | .nil, _ => ⟨PureM.stuck, PureM.stuck, PureM.pure _, PureM.stuck, PureM.stuck, PureM.stuck⟩
  | .cons a b, h => by
    rw [pureIE, Bool.and_eq_true] at h
    have ha := pureD a h.1
    have hb := pureD b h.2
    exact ⟨PureM.stuck, PureM.stuck, ha.o.bind fun _ => hb.a.bind fun _ => PureM.pure _, PureM.stuck, PureM.ite ha.e (ha.b.bind fun _ => PureM.ite hb.ands (PureM.pure _)), PureM.ite ha.e (ha.b.bind fun _ => PureM.ite (PureM.pure _) hb.ors)⟩
  | .tup es, h => .of ((pureD es h).a.bind pure_mkTup)
  | .lst es, h => .of ((pureD es h).a.bind pure_mkLst)
  | .bin o a b, h => by
    rw [pureIE, Bool.and_eq_true] at h
    exact .of ((pureD a h.1).o.bind fun _ => (pureD b h.2).o.bind fun _ => pure_op2 _ _)
  | .neg a, h => .of ((pureD a h).o.bind fun _ => pure_op1 _)
  | .cmp o a b, h => by
    rw [pureIE, Bool.and_eq_true] at h
    exact .of ((pureD a h.1).o.bind fun _ => (pureD b h.2).o.bind fun _ => pure_op2 _ _)
  | .chain o o' a b d, h => by
    rw [pureIE, Bool.and_eq_true, Bool.and_eq_true] at h
    exact .of ((pureD a h.1.1).o.bind fun _ => (pureD b h.1.2).o.bind fun _ => ((pure_op2 _ _).bind pure_asB).bind fun _ => PureM.ite ((pureD d h.2).o.bind fun _ => pure_op2 _ _) (PureM.pure _))
  | .and_ es, h => .of (pureD es h).ands
  | .or_ es, h => .of (pureD es h).ors
  | .not_ a, h => .of ((pureD a h).b.bind fun _ => PureM.pure _)
  | .ifx t a b, h => by
    rw [pureIE, Bool.and_eq_true, Bool.and_eq_true] at h
    exact .of ((pureD t h.1.1).b.bind fun _ => PureM.ite (pureD a h.1.2).e (pureD b h.2).e)
  | .ix a b, h => by
    rw [pureIE, Bool.and_eq_true] at h
    exact .of ((pureD a h.1).o.bind fun _ => (pureD b h.2).o.bind fun _ => pure_op2 _ _)
  | .slc a l hh, h => by
    rw [pureIE, Bool.and_eq_true, Bool.and_eq_true] at h
    exact .of ((pureD a h.1.1).o.bind fun _ => (pure_slcB (pureD l h.1.2) _).bind fun _ => (pure_slcB (pureD hh h.2) _).bind fun _ => pure_op1 _)
  | .rev a, h => .of ((pureD a h).o.bind fun _ => pure_op1 _)
  | .call g es, h => by
    rw [pureIE, Bool.and_eq_true] at h
    obtain ⟨h1, h2⟩ := h
    unfold den
    cases hg : P.fn g with
    | none => exact .of PureM.stuck
    | some i =>
      simp only [hg] at h1 ⊢
      have : i.io = none := by simpa using h1
      rw [this]
      exact .of ((pureD es h2).a.bind pure_callM)
  | .look g es, h => .of ((pureD es h).a.bind pure_callS)
  | .bi b es, h => .of ((pureD es h).a.bind pure_opN)
  | .isi1 t a, h => .of ((pureD a h).o.bind fun _ => pure_op1 _)
  | .isi2 t u a, h => .of ((pureD a h).o.bind fun _ => pure_op1 _)
  | .lc .., h => by cases h
  | .rng es, h => ⟨PureM.stuck, PureM.stuck, PureM.stuck, (pureD es h).a.bind (pure_rngA _), PureM.stuck, PureM.stuck⟩
  | .zip2 es, h => ⟨PureM.stuck, PureM.stuck, PureM.stuck, (pureD es h).a.bind pure_asZip, PureM.stuck, PureM.stuck⟩
  | .srt a, h => .of ((pureD a h).o.bind fun _ => pure_op1 _)
theorem srcM_seq {m : M Opd} : SrcM (M.bind m asSrc) := fun e p e' q => by
  unfold M.bind at q
  cases hm : m e with
  | ok o e1 =>
    rw [hm] at q
    unfold srcAt
    simp only [asSrc] at q
    split at q
    · cases q; trivial
    · cases q; trivial
    · split at q
      · rename_i i ds h
        cases q
        exact h
      · cases q
    · cases q
  | exc c x e1 => rw [hm] at q; cases q
  | stuck => rw [hm] at q; cases q
theorem srcM_of {m : M D} : SrcM (Den.of m).s := srcM_seq (m := M.bind m fun d => M.pure (.inl d))
theorem srcM_rng {m : M (List Opd)} {n : Nat} : SrcM (M.bind m (rngA n)) := fun e p e' q => by
  unfold M.bind at q
  cases hm : m e with
  | ok o e1 =>
    rw [hm] at q
    unfold srcAt
    simp only [rngA, asRng] at q
    split at q
    · split at q
      · split at q <;> first | (cases q; trivial) | cases q
      · split at q <;> first | (cases q; trivial) | cases q
      · cases q
    · cases q
  | exc c x e1 => rw [hm] at q; cases q
  | stuck => rw [hm] at q; cases q
theorem srcM_zip {m : M (List Opd)} : SrcM (M.bind m asZip) := fun e p e' q => by
  unfold M.bind at q
  cases hm : m e with
  | ok o e1 =>
    rw [hm] at q
    unfold srcAt
    simp only [asZip] at q
    split at q
    · cases q; trivial
    · cases q; trivial
    · cases q
  | exc c x e1 => rw [hm] at q; cases q
  | stuck => rw [hm] at q; cases q
theorem srcM_stuck : SrcM M.stuck := fun e p e' q => by cases q
theorem srcM : ∀ ie : IE, SrcM (den P cf ie).s
  | .nil => srcM_stuck
  | .cons .. => srcM_stuck
  | .rng es => srcM_rng
  | .zip2 es => srcM_zip
  | .srt _ => by unfold den; exact srcM_of
  | .var i => srcM_seq
  | .lit _ => by unfold den; exact srcM_of
  | .frz _ => by unfold den; exact srcM_of
  | .glob _ => by unfold den; exact srcM_of
  | .tup _ => by unfold den; exact srcM_of
  | .lst _ => by unfold den; exact srcM_of
  | .bin _ _ _ => by unfold den; exact srcM_of
  | .neg _ => by unfold den; exact srcM_of
  | .cmp _ _ _ => by unfold den; exact srcM_of
  | .chain _ _ _ _ _ => by unfold den; exact srcM_of
  | .and_ _ => by unfold den; exact srcM_of
  | .or_ _ => by unfold den; exact srcM_of
  | .not_ _ => by unfold den; exact srcM_of
  | .ifx _ _ _ => by unfold den; exact srcM_of
  | .ix _ _ => by unfold den; exact srcM_of
  | .slc _ _ _ => by unfold den; exact srcM_of
  | .rev _ => by unfold den; exact srcM_of
  | .call _ _ => by unfold den; exact srcM_of
  | .look _ _ => by unfold den; exact srcM_of
  | .bi _ _ => by unfold den; exact srcM_of
  | .isi1 _ _ => by unfold den; exact srcM_of
  | .isi2 _ _ _ => by unfold den; exact srcM_of
  | .lc _ _ _ _ _ => by unfold den; exact srcM_of
theorem srcM_noOwn {m : M Src} (h : SrcM m) : SrcM (noOwn m) := fun e p e' q => by
  unfold noOwn M.bind at q
  cases hm : m e with
  | ok o e1 =>
    rw [hm] at q
    simp only at q
    split at q
    · cases q
      exact h e _ _ hm
    · cases q
  | exc c x e1 => rw [hm] at q; cases q
  | stuck => rw [hm] at q; cases q
theorem noOwn_no {m : M Src} : NoOwn (noOwn m) := fun e p e' q => by
  unfold noOwn M.bind at q
  cases hm : m e with
  | ok o e1 =>
    rw [hm] at q
    simp only at q
    split at q
    · cases q
      assumption
    · cases q
  | exc c x e1 => rw [hm] at q; cases q
  | stuck => rw [hm] at q; cases q
theorem SI.noOwn {tg ex : Expr} {m : M Src} (h : SI T X tg ex m) : SI T X tg ex (Tp.noOwn m) := fun F tk => PI.weak (h F tk) fun σ H Q ⟨e, G, s, q⟩ => by
  refine ⟨e, G, s, ?_⟩
  unfold Tp.noOwn M.bind at q
  unfold Aft at q ⊢
  cases hm : m e with
  | ok p e1 =>
    rw [hm] at q
    by_cases hp : p.2 = none
    · simp only [if_pos hp] at q
      exact q
    · simp only [if_neg hp] at q
      exact q.elim
  | exc c x e1 => rw [hm] at q; exact q
  | stuck => rw [hm] at q; exact q
end
end Tp
/-! Tp15: the theorem over all forms of expressions. -/
namespace Tp
open PySem PySem.Spec PyProof.Rows L2
section
variable {T : ExcT} {P : PgI} {cf : Nat → List D → FRes}
theorem and_test {m m2 : M D} : M.bind (M.bind (M.bind m asB) fun k => if k then m2 else M.pure (.bool false)) asB = M.bind (M.bind m asB) fun k => if k then M.bind m2 asB else M.pure false := by
  rw [bind_assoc]
  congr 1
  funext k
  cases k <;> rfl
theorem or_test {m m2 : M D} : M.bind (M.bind (M.bind m asB) fun k => if k then M.pure (.bool true) else m2) asB = M.bind (M.bind m asB) fun k => if k then M.pure true else M.bind m2 asB := by
  rw [bind_assoc]
  congr 1
  funext k
  cases k <;> rfl
theorem not_test {m : M Bool} : M.bind (M.bind m fun k => M.pure (.bool !k)) asB = M.bind m fun k => M.pure (!k) := by
  rw [bind_assoc]
  rfl
theorem args_ne {ie : IE} {es : List Expr} (h : isNil ie = true ↔ es = []) : (isNil ie = false ↔ es ≠ []) := by
  cases z : isNil ie with
  | true => simp [h.mp z]
  | false =>
    refine ⟨fun _ q => ?_, fun _ => rfl⟩
    rw [h.mpr q] at z
    cases z
theorem blkOwn_snd {c : MC} {own : List Nat} : (blkOwn c own).map (·.2) = own := by
  unfold blkOwn
  rw [List.map_map]
  exact List.map_id own
theorem lc_sn {c : MC} {X : Cx} (f : Fits T P cf c X) {t : Tgt} {own : List Nat} {elt iter cond : IE} {x tg it : Expr} {ifs : List Expr} {scope : Scope} {pos : Pos}
    (hi : SI T X tg it (den P cf iter).s) (he : ∀ (s : Shared) (H : Hp) (C : Addr) (cl : List (Str × Addr)) (fp : List Addr), SE T (X.blk s H scope (compEnvC scope cl C X.env) fp) x (den P cf elt).e) (h2 : notSet it = true) (h3 : mTgt (Tp.inner c scope) t tg = true)
    (h4 : (t.slots.all fun i => decide (i ∈ own)) = true) (h5 : blkC c.N c.sc scope (blkOwn c own) = true)
    (hcd : ∀ (s : Shared) (H : Hp) (C : Addr) (cl : List (Str × Addr)) (fp : List Addr), SC T (X.blk s H scope (compEnvC scope cl C X.env) fp) ifs (if isNil cond then M.pure true else (den P cf cond).b)) :
    SN T X (.ListComp x [⟨tg, it, ifs, 0⟩] scope pos) (lcM (if pureIE P elt && pureIE P cond then (den P cf iter).s else noOwn (den P cf iter).s) t own (if isNil cond then M.pure true else (den P cf cond).b) (den P cf elt).e) := by
  have ok : BlkOk X.N X.env.scope scope (blkOwn c own) := by
    rw [f.N, f.sc]
    exact blkOk_by h5
  have ht : ∀ i ∈ t.slots, i ∈ (blkOwn c own).map (·.2) := by
    rw [blkOwn_snd]
    intro i hi
    exact of_decide_eq_true (List.all_eq_true.mp h4 i hi)
  have hs1 : SI T X tg it (if pureIE P elt && pureIE P cond then (den P cf iter).s else noOwn (den P cf iter).s) := by
    split
    · exact hi
    · exact hi.noOwn
  have hs2 : SrcM (if pureIE P elt && pureIE P cond then (den P cf iter).s else noOwn (den P cf iter).s) := by
    split
    · exact srcM iter
    · exact srcM_noOwn (srcM iter)
  have hs3 : NoOwn (if pureIE P elt && pureIE P cond then (den P cf iter).s else noOwn (den P cf iter).s) ∨ (PureM (if isNil cond then M.pure true else (den P cf cond).b) ∧ PureM (den P cf elt).e) := by
    split
    · rename_i h
      rw [Bool.and_eq_true] at h
      refine .inr ⟨PureM.ite (PureM.pure _) (pureD cond h.2).b, (pureD elt h.1).e⟩
    · exact .inl noOwn_no
  have := sn_lc (T := T) (X := X) (pos := pos) f.calm f.nd hs1 (own := blkOwn c own) (t := t) (mc := if isNil cond then M.pure true else (den P cf cond).b) (me := (den P cf elt).e) ⟨fun s H C cl fp => (f.inner s H C cl fp).target h3, hcd, he⟩ ok ht hs2 hs3 h2
  rw [blkOwn_snd] at this
  exact this
theorem sound : ∀ (ie : IE) (c : MC) (X : Cx), Fits T P cf c X → Ok5 T P cf c X ie
  | .lit d, c, X, f => .of (f := fun _ e => litM d e) rfl rfl fun ex h => litM_pe h
  | .var i, c, X, f => by
    have hv : ∀ ex, (mt P (.var i)).e c ex = true → ∃ x pos, ex = .Name x pos ∧ isVar c i x = true := fun ex h => by
      cases ex <;> first | cases h | exact ⟨_, _, rfl, h⟩
    refine ⟨fun ex h => ?_, fun ex h => ?_, fun _ ex h => ?_, fun es h => (by cases h), fun tg ex _ h => ?_, fun es pos h => (by cases h), fun es pos h => (by cases h)⟩
    · obtain ⟨x, pos, rfl, h⟩ := hv ex h
      obtain ⟨h1, h2, h3, h4⟩ := f.var h
      exact se_var h1 h2 h3 h4
    · obtain ⟨x, pos, rfl, h⟩ := hv ex h
      obtain ⟨h1, h2, h3, h4⟩ := f.var h
      exact so_var h1 h2 h3 h4
    · obtain ⟨x, pos, rfl, h⟩ := hv ex h
      obtain ⟨h1, h2, h3, h4⟩ := f.var h
      exact (se_var h1 h2 h3 h4).sb (plain_true rfl)
    · obtain ⟨x, pos, rfl, h⟩ := hv ex h
      obtain ⟨h1, h2, h3, h4⟩ := f.var h
      exact si_seq (so_var h1 h2 h3 h4)
  | .frz i, c, X, f => .of (f := fun c e => match e with | .Name x _ => isVar c i x | _ => false) rfl rfl fun ex h => by
    cases ex <;> first | (cases h; done) | skip
    obtain ⟨h1, h2, h3, h4⟩ := f.var h
    exact ⟨se_frz h1 h2 h3 h4, rfl⟩
  | .glob g, c, X, f => .of (f := fun c e => match e with | .Name x _ => decide (x = g) && isGl c x | _ => false) rfl rfl fun ex h => by
    cases ex <;> first | (cases h; done) | skip
    rename_i x pos
    have h' : (decide (x = g) && isGl c x) = true := h
    rw [Bool.and_eq_true, decide_eq_true_eq] at h'
    obtain ⟨rfl, h2⟩ := h'
    obtain ⟨hg, hd⟩ := f.gl h2
    refine ⟨?_, rfl⟩
    cases z : P.gl.lookup x with
    | none => exact fun F tk => PE.weak (t := fun _ _ _ => False) ⟨fun _ _ _ _ _ _ q => q.elim⟩ fun σ H Q ⟨e, G, s, q⟩ => q
    | some d =>
      obtain ⟨u, v, h3, h4, h5⟩ := f.gls x d z
      exact se_const (pe_glob hg h3 h4 hd) h5
  | .nil, c, X, f => by
    refine ⟨fun ex h => (by cases h), fun ex h => (by cases h), fun _ ex h => (by cases h), fun es h => ?_, fun tg ex _ h => (by cases h), fun es pos h hn => ?_, fun es pos h hn => ?_⟩
    · cases es with
      | nil => exact ⟨sa_nil, rfl, fun _ => rfl, ⟨fun _ => rfl, fun _ => rfl⟩⟩
      | cons _ _ => cases h
    · cases es with
      | nil => exact absurd rfl hn
      | cons _ _ => cases h
    · cases es with
      | nil => exact absurd rfl hn
      | cons _ _ => cases h
  | .cons a b, c, X, f => by
    have oa := sound a c X f
    have ob := sound b c X f
    have hc : ∀ es, (mt P (.cons a b)).a c es = true → ∃ e r, es = e :: r ∧ (mt P a).e c e = true ∧ notStar e = true ∧ (mt P b).a c r = true := fun es h => by
      cases es with
      | nil => cases h
      | cons e r =>
        have h' : ((mt P a).e c e && notStar e && (mt P b).a c r) = true := h
        rw [Bool.and_eq_true, Bool.and_eq_true] at h'
        exact ⟨e, r, rfl, h'.1.1, h'.1.2, h'.2⟩
    refine ⟨fun ex h => (by cases h), fun ex h => (by cases h), fun _ ex h => (by cases h), fun es h => ?_, fun tg ex _ h => (by cases h), fun es pos h hn => ?_, fun es pos h hn => ?_⟩
    · obtain ⟨e, r, rfl, h1, h2, h3⟩ := hc es h
      obtain ⟨k1, k2, k3, _⟩ := ob.a r h3
      exact ⟨sa_cons (oa.o e h1) k1 h2, by rw [List.all_cons, h2, k2]; rfl, (fun z => nomatch z), ⟨(fun z => nomatch z), fun z => nomatch z⟩⟩
    · obtain ⟨e, r, rfl, h1, h2, h3⟩ := hc es h
      obtain ⟨_, _, _, k4⟩ := ob.a r h3
      have tbs : (mt P (.cons a b)).tb = true → (mt P a).tb = true ∧ (mt P b).tb = true := fun z => by
        have z' : ((mt P a).tb && (mt P b).tb) = true := z
        rw [Bool.and_eq_true] at z'
        exact z'
      show SE T X _ (if isNil b then (den P cf a).e else M.bind (den P cf a).b fun k => if k then (den P cf b).ands else M.pure (.bool false)) ∧ (_ → SBW T X _ (M.bind (if isNil b then (den P cf a).e else M.bind (den P cf a).b fun k => if k then (den P cf b).ands else M.pure (.bool false)) asB))
      cases r with
      | nil =>
        rw [k4.mpr rfl]
        simp only [if_true]
        exact ⟨se_one (oa.e e h1), fun z => sbw_and1 (oa.b (tbs z).1 e h1)⟩
      | cons e2 r =>
        rw [(args_ne k4).mpr (by simp)]
        simp only [Bool.false_eq_true, if_false]
        obtain ⟨j1, j2⟩ := ob.ands (e2 :: r) pos h3 (by simp)
        refine ⟨se_and (oa.e e h1) j1, fun z => ?_⟩
        show SBW T X _ (M.bind (M.bind (M.bind (den P cf a).e asB) fun k => if k then (den P cf b).ands else M.pure (.bool false)) asB)
        rw [and_test]
        exact sbw_and (oa.b (tbs z).1 e h1) (j2 (tbs z).2)
    · obtain ⟨e, r, rfl, h1, h2, h3⟩ := hc es h
      obtain ⟨_, _, _, k4⟩ := ob.a r h3
      have tbs : (mt P (.cons a b)).tb = true → (mt P a).tb = true ∧ (mt P b).tb = true := fun z => by
        have z' : ((mt P a).tb && (mt P b).tb) = true := z
        rw [Bool.and_eq_true] at z'
        exact z'
      show SE T X _ (if isNil b then (den P cf a).e else M.bind (den P cf a).b fun k => if k then M.pure (.bool true) else (den P cf b).ors) ∧ (_ → SBW T X _ (M.bind (if isNil b then (den P cf a).e else M.bind (den P cf a).b fun k => if k then M.pure (.bool true) else (den P cf b).ors) asB))
      cases r with
      | nil =>
        rw [k4.mpr rfl]
        simp only [if_true]
        exact ⟨se_one (oa.e e h1), fun z => sbw_or1 (oa.b (tbs z).1 e h1)⟩
      | cons e2 r =>
        rw [(args_ne k4).mpr (by simp)]
        simp only [Bool.false_eq_true, if_false]
        obtain ⟨j1, j2⟩ := ob.ors (e2 :: r) pos h3 (by simp)
        refine ⟨se_or (oa.e e h1) j1, fun z => ?_⟩
        show SBW T X _ (M.bind (M.bind (M.bind (den P cf a).e asB) fun k => if k then M.pure (.bool true) else (den P cf b).ors) asB)
        rw [or_test]
        exact sbw_or (oa.b (tbs z).1 e h1) (j2 (tbs z).2)
  | .tup es, c, X, f => .of (f := fun c e => match e with | .Tuple xs _ _ => (mt P es).a c xs | _ => false) rfl rfl fun ex h => by
    cases ex <;> first | (cases h; done) | skip
    exact ⟨se_tup ((sound es c X f).a _ h).1, rfl⟩
  | .lst es, c, X, f => .of (f := fun c e => match e with | .List xs _ => (mt P es).a c xs | _ => false) rfl rfl fun ex h => by
    cases ex <;> first | (cases h; done) | skip
    exact ⟨(sn_lst ((sound es c X f).a _ h).1).se, rfl⟩
  | .bin o a b, c, X, f => .of (f := fun c e => match e with | .BinOp x op y _ => decide (op = o.op) && (mt P a).e c x && (mt P b).e c y | _ => false) rfl rfl fun ex h => by
    cases ex <;> first | (cases h; done) | skip
    rename_i x op y pos
    have h' : (decide (op = o.op) && (mt P a).e c x && (mt P b).e c y) = true := h
    rw [Bool.and_eq_true, Bool.and_eq_true, decide_eq_true_eq] at h'
    obtain ⟨⟨rfl, h1⟩, h2⟩ := h'
    obtain ⟨r, w1, w2⟩ := bop_rule (X := X) o
    exact ⟨se_bin w1 w2 ((sound a c X f).o x h1) ((sound b c X f).o y h2), rfl⟩
  | .neg a, c, X, f => .of (f := fun c e => match e with | .UnaryOp .USub x _ => (mt P a).e c x | _ => false) rfl rfl fun ex h => by
    cases ex <;> first | (cases h; done) | skip
    rename_i op x pos
    cases op <;> first | (cases h; done) | skip
    exact ⟨se_un un_neg op1_neg ((sound a c X f).o x h), rfl⟩
  | .cmp o a b, c, X, f => .of' (f := fun c e => match e with | .Compare x [op] [y] _ => decide (op = o.op) && (mt P a).e c x && (mt P b).e c y && !behindInMarks op y | _ => false) rfl rfl (fun ex h => by
      cases ex <;> first | (cases h; done) | skip
      rename_i x ops ys pos
      split at h <;> first | (cases h; done) | skip
      rename_i heq
      cases heq
      simp only [Bool.and_eq_true, decide_eq_true_eq, Bool.not_eq_true'] at h
      obtain ⟨⟨⟨rfl, h1⟩, h2⟩, h3⟩ := h
      obtain ⟨r, w1, w2⟩ := cop_rule f.un o
      exact se_cmp w1 w2 ((sound a c X f).o _ h1) ((sound b c X f).o _ h2) h3) fun _ ex h => by
      cases ex <;> first | (cases h; done) | skip
      rename_i x ops ys pos
      split at h <;> first | (cases h; done) | skip
      rename_i heq
      cases heq
      simp only [Bool.and_eq_true, decide_eq_true_eq, Bool.not_eq_true'] at h
      obtain ⟨⟨⟨rfl, h1⟩, h2⟩, h3⟩ := h
      obtain ⟨r, w1, w2⟩ := cop_rule f.un o
      exact sb_cmp w1 w2 ((sound a c X f).o _ h1) ((sound b c X f).o _ h2) h3
  | .chain o o' a b d, c, X, f => .of' (f := fun c e => match e with | .Compare x [op, op'] [y, z] _ => decide (op = o.op) && decide (op' = o'.op) && (mt P a).e c x && (mt P b).e c y && (mt P d).e c z && !lastMarks [op, op'] [y, z] | _ => false) rfl rfl (fun ex h => by
      cases ex <;> first | (cases h; done) | skip
      rename_i x ops ys pos
      split at h <;> first | (cases h; done) | skip
      rename_i heq
      cases heq
      simp only [Bool.and_eq_true, decide_eq_true_eq, Bool.not_eq_true'] at h
      obtain ⟨⟨⟨⟨⟨rfl, rfl⟩, h1⟩, h2⟩, h4⟩, h3⟩ := h
      obtain ⟨r, w1, w2⟩ := cop_rule f.un o
      obtain ⟨r', w3, w4⟩ := cop_rule f.un o'
      exact se_chain w1 w3 w2 w4 ((sound a c X f).o _ h1) ((sound b c X f).o _ h2) ((sound d c X f).o _ h4) h3) fun _ ex h => by
      cases ex <;> first | (cases h; done) | skip
      rename_i x ops ys pos
      split at h <;> first | (cases h; done) | skip
      rename_i heq
      cases heq
      simp only [Bool.and_eq_true, decide_eq_true_eq, Bool.not_eq_true'] at h
      obtain ⟨⟨⟨⟨⟨rfl, rfl⟩, h1⟩, h2⟩, h4⟩, h3⟩ := h
      obtain ⟨r, w1, w2⟩ := cop_rule f.un o
      obtain ⟨r', w3, w4⟩ := cop_rule f.un o'
      exact sb_chain w1 w3 w2 w4 ((sound a c X f).o _ h1) ((sound b c X f).o _ h2) ((sound d c X f).o _ h4) h3
  | .and_ es, c, X, f => .of' (f := fun c e => match e with | .BoolOp .And xs _ => (mt P es).a c xs && !xs.isEmpty | _ => false) (tb := (mt P es).tb) rfl rfl (fun ex h => by
      cases ex <;> first | (cases h; done) | skip
      rename_i op xs pos
      cases op <;> first | (cases h; done) | skip
      have h' : ((mt P es).a c xs && !xs.isEmpty) = true := h
      rw [Bool.and_eq_true, Bool.not_eq_true'] at h'
      exact ((sound es c X f).ands xs pos h'.1 (by cases xs <;> simp at h' ⊢)).1) fun ht ex h => by
      cases ex <;> first | (cases h; done) | skip
      rename_i op xs pos
      cases op <;> first | (cases h; done) | skip
      have h' : ((mt P es).a c xs && !xs.isEmpty) = true := h
      rw [Bool.and_eq_true, Bool.not_eq_true'] at h'
      exact (((sound es c X f).ands xs pos h'.1 (by cases xs <;> simp at h' ⊢)).2 ht).sb
  | .or_ es, c, X, f => .of' (f := fun c e => match e with | .BoolOp .Or xs _ => (mt P es).a c xs && !xs.isEmpty | _ => false) (tb := (mt P es).tb) rfl rfl (fun ex h => by
      cases ex <;> first | (cases h; done) | skip
      rename_i op xs pos
      cases op <;> first | (cases h; done) | skip
      have h' : ((mt P es).a c xs && !xs.isEmpty) = true := h
      rw [Bool.and_eq_true, Bool.not_eq_true'] at h'
      exact ((sound es c X f).ors xs pos h'.1 (by cases xs <;> simp at h' ⊢)).1) fun ht ex h => by
      cases ex <;> first | (cases h; done) | skip
      rename_i op xs pos
      cases op <;> first | (cases h; done) | skip
      have h' : ((mt P es).a c xs && !xs.isEmpty) = true := h
      rw [Bool.and_eq_true, Bool.not_eq_true'] at h'
      exact (((sound es c X f).ors xs pos h'.1 (by cases xs <;> simp at h' ⊢)).2 ht).sb
  | .not_ a, c, X, f => .of' (f := fun c e => match e with | .UnaryOp .Not x _ => (mt P a).e c x | _ => false) (tb := (mt P a).tb) rfl rfl (fun ex h => by
      cases ex <;> first | (cases h; done) | skip
      rename_i op x pos
      cases op <;> first | (cases h; done) | skip
      exact se_not ((sound a c X f).e x h)) fun ht ex h => by
      cases ex <;> first | (cases h; done) | skip
      rename_i op x pos
      cases op <;> first | (cases h; done) | skip
      rw [not_test]
      exact sb_not ((sound a c X f).b ht x h)
  | .ifx t a b, c, X, f => .of' (f := fun c e => match e with | .IfExp z x y _ => (mt P t).e c z && (mt P t).tb && (mt P a).e c x && (mt P b).e c y | _ => false) (tb := false) rfl rfl (fun ex h => by
      cases ex <;> first | (cases h; done) | skip
      rename_i z x y pos
      have h' : ((mt P t).e c z && (mt P t).tb && (mt P a).e c x && (mt P b).e c y) = true := h
      simp only [Bool.and_eq_true] at h'
      obtain ⟨⟨⟨h1, h2⟩, h3⟩, h4⟩ := h'
      exact se_if ((sound t c X f).b h2 z h1) ((sound a c X f).e x h3) ((sound b c X f).e y h4)) fun ht => by cases ht
  | .ix a b, c, X, f => .of (f := fun c e => match e with | .Subscript x y _ => (mt P a).e c x && (mt P b).e c y && notSlice y | _ => false) rfl rfl fun ex h => by
    cases ex <;> first | (cases h; done) | skip
    rename_i x y pos
    have h' : ((mt P a).e c x && (mt P b).e c y && notSlice y) = true := h
    simp only [Bool.and_eq_true] at h'
    exact ⟨se_ix ((sound a c X f).o x h'.1.1) ((sound b c X f).o y h'.1.2) h'.2, rfl⟩
  | .slc a l hh, c, X, f => .of (f := fun c e => match e with
      | .Subscript x (.Slice lo hi none _) _ => (mt P a).e c x && (match lo with | none => isNil l | some y => !isNil l && (mt P l).e c y) && (match hi with | none => isNil hh | some y => !isNil hh && (mt P hh).e c y)
      | _ => false) rfl rfl fun ex h => by
    cases ex <;> first | (cases h; done) | skip
    rename_i x sl pos
    split at h <;> first | (cases h; done) | skip
    rename_i heq
    cases heq
    simp only [Bool.and_eq_true] at h
    obtain ⟨⟨h1, h2⟩, h3⟩ := h
    refine ⟨se_slice ((sound a c X f).o _ h1) ?_ ?_, rfl⟩
    · split at h2
      · unfold slcB
        rw [h2]
        exact sp_none
      · rw [Bool.and_eq_true, Bool.not_eq_true'] at h2
        unfold slcB
        rw [h2.1]
        exact sp_some ((sound l c X f).e _ h2.2)
    · split at h3
      · unfold slcB
        rw [h3]
        exact sp_none
      · rw [Bool.and_eq_true, Bool.not_eq_true'] at h3
        unfold slcB
        rw [h3.1]
        exact sp_some ((sound hh c X f).e _ h3.2)
  | .rev a, c, X, f => .of (f := fun c e => match e with | .Subscript x (.Slice none none (some (.UnaryOp .USub (.Constant (.int 1) _ _) _)) _) _ => (mt P a).e c x | _ => false) rfl rfl fun ex h => by
    cases ex <;> first | (cases h; done) | skip
    split at h <;> first | (cases h; done) | skip
    rename_i heq
    cases heq
    exact ⟨se_rev ((sound a c X f).o _ h), rfl⟩
  | .call g es, c, X, f => .of (f := fun c e => match e with | .Call (.Name x _) xs [] _ => (match P.fn g with | some i => decide (x = i.name) | none => false) && isGl c x && (mt P es).a c xs | _ => false) rfl rfl fun ex h => by
    cases ex <;> first | (cases h; done) | skip
    split at h <;> first | (cases h; done) | skip
    rename_i heq
    cases heq
    cases hg : P.fn g with
    | none => rw [hg] at h; cases h
    | some i =>
      rw [hg] at h
      simp only [Bool.and_eq_true, decide_eq_true_eq] at h
      obtain ⟨⟨rfl, h2⟩, h3⟩ := h
      obtain ⟨k1, k2⟩ := f.gl h2
      obtain ⟨j1, j2, j3, _⟩ := (sound es c X f).a _ h3
      have dn := f.defs g i hg
      refine ⟨?_, rfl⟩
      simp only
      cases ho : i.own with
      | true =>
        rw [ho] at dn
        exact (sn_call dn j1 k1 k2 j2 j3).se
      | false =>
        rw [ho] at dn
        exact se_call dn j1 k1 k2 j2 j3
  | .look g es, c, X, f => .of (f := fun c e => match e with | .Call (.Name x _) xs [] _ => (match P.fn g with | some i => decide (x = i.name) && decide (i.io = none) && !i.own | none => false) && isGl c x && (mt P es).a c xs | _ => false) rfl rfl fun ex h => by
    cases ex <;> first | (cases h; done) | skip
    split at h <;> first | (cases h; done) | skip
    rename_i heq
    cases heq
    cases hg : P.fn g with
    | none => rw [hg] at h; cases h
    | some i =>
      rw [hg] at h
      simp only [Bool.and_eq_true, decide_eq_true_eq, Bool.not_eq_true'] at h
      obtain ⟨⟨⟨⟨rfl, hio⟩, hown⟩, h2⟩, h3⟩ := h
      obtain ⟨k1, k2⟩ := f.gl h2
      obtain ⟨j1, j2, j3, _⟩ := (sound es c X f).a _ h3
      have dn := f.defs g i hg
      rw [hio, hown] at dn
      exact ⟨se_look dn j1 k1 k2 j2 j3, rfl⟩
  | .bi b es, c, X, f => .of (f := fun c e => match e with | .Call (.Name x _) xs [] _ => decide (x = b.ns) && isGl c x && (mt P es).a c xs && !xs.isEmpty | _ => false) rfl rfl fun ex h => by
    cases ex <;> first | (cases h; done) | skip
    split at h <;> first | (cases h; done) | skip
    rename_i heq
    cases heq
    rename_i xs _
    simp only [Bool.and_eq_true, decide_eq_true_eq, Bool.not_eq_true'] at h
    obtain ⟨⟨⟨rfl, h2⟩, h3⟩, h4⟩ := h
    obtain ⟨k1, k2⟩ := f.gl h2
    obtain ⟨j1, j2, j3, _⟩ := (sound es c X f).a _ h3
    exact ⟨se_bi f b j1 k1 j2 (by intro z; subst z; simp at h4), rfl⟩
  | .isi1 t a, c, X, f => .of (f := fun c e => match e with | .Call (.Name x _) [y, .Name z _] [] _ => decide (x = "isinstance") && isGl c x && decide (z = t.ns) && isGl c z && (mt P a).e c y && notStar y | _ => false) rfl rfl fun ex h => by
    cases ex <;> first | (cases h; done) | skip
    split at h <;> first | (cases h; done) | skip
    rename_i heq
    cases heq
    simp only [Bool.and_eq_true, decide_eq_true_eq] at h
    obtain ⟨⟨⟨⟨⟨rfl, h2⟩, rfl⟩, h4⟩, h5⟩, h6⟩ := h
    exact ⟨se_isi1 ((sound a c X f).o _ h5) h6 (f.gl h2).1 (f.blt _ (by simp [bltNames])) (f.gl h4).1 (f.blt _ (by cases t <;> simp [Ty5.ns, bltNames])), rfl⟩
  | .isi2 t u a, c, X, f => .of (f := fun c e => match e with | .Call (.Name x _) [y, .Tuple [.Name z _, .Name w _] _ _] [] _ => decide (x = "isinstance") && isGl c x && decide (z = t.ns) && isGl c z && decide (w = u.ns) && isGl c w && (mt P a).e c y && notStar y | _ => false) rfl rfl fun ex h => by
    cases ex <;> first | (cases h; done) | skip
    split at h <;> first | (cases h; done) | skip
    rename_i heq
    cases heq
    simp only [Bool.and_eq_true, decide_eq_true_eq] at h
    obtain ⟨⟨⟨⟨⟨⟨⟨rfl, h2⟩, rfl⟩, h4⟩, rfl⟩, h8⟩, h5⟩, h6⟩ := h
    exact ⟨se_isi2 ((sound a c X f).o _ h5) h6 (f.gl h2).1 (f.blt _ (by simp [bltNames])) (f.gl h4).1 (f.blt _ (by cases t <;> simp [Ty5.ns, bltNames])) (f.gl h8).1 (f.blt _ (by cases u <;> simp [Ty5.ns, bltNames])), rfl⟩
  | .lc t own elt iter cond, c, X, f => .of (f := fun c e => match e with
    | .ListComp x [⟨tg, it, ifs, asy⟩] scope _ => decide (asy = 0) && (mt P iter).s c it && notSet it && zipOk iter tg && mTgt (Tp.inner c scope) t tg && (t.slots.all fun i => decide (i ∈ own)) && blkC c.N c.sc scope (blkOwn c own) && (mt P elt).e (Tp.inner c scope) x &&
        (match ifs with | [] => isNil cond | [y] => !isNil cond && (mt P cond).e (Tp.inner c scope) y && (mt P cond).tb | _ => false)
    | _ => false) rfl rfl fun ex h => by
    cases ex <;> first | (cases h; done) | skip
    split at h <;> first | (cases h; done) | skip
    rename_i heq
    cases heq
    rename_i x tg it ifs asy scope pos
    simp only [Bool.and_eq_true, decide_eq_true_eq] at h
    obtain ⟨⟨⟨⟨⟨⟨⟨⟨rfl, h1⟩, h2⟩, hz⟩, h3⟩, h4⟩, h5⟩, h6⟩, h7⟩ := h
    refine ⟨(lc_sn f ((sound iter c X f).s _ _ hz h1) (fun s H C cl fp => (sound elt _ _ (f.inner s H C cl fp)).e _ h6) h2 h3 h4 h5 ?_).se, rfl⟩
    intro s H C cl fp
    split at h7
    · rw [h7]
      exact sc_nil
    · simp only [Bool.and_eq_true, Bool.not_eq_true'] at h7
      rw [h7.1.1]
      exact sc_one ((sound cond _ _ (f.inner s H C cl fp)).b h7.2 _ h7.1.2)
    · cases h7
  | .rng es, c, X, f => by
    refine ⟨fun ex h => (by cases h), fun ex h => (by cases h), fun _ ex h => (by cases h), fun es h => (by cases h), fun tg ex _ h => ?_, fun es pos h hn => (by cases h), fun es pos h hn => (by cases h)⟩
    cases ex <;> first | (cases h; done) | skip
    simp only [mt] at h
    split at h <;> first | (cases h; done) | skip
    rename_i heq
    cases heq
    simp only [Bool.and_eq_true, decide_eq_true_eq] at h
    obtain ⟨⟨⟨rfl, h2⟩, h3⟩, h4⟩ := h
    obtain ⟨j1, j2, j3, _⟩ := (sound es c X f).a _ h3
    have hm := f.blt "range" (by simp [bltNames])
    split at h4
    · have ha : arity es = 1 := by simpa using h4
      rw [List.all_cons, Bool.and_eq_true] at j2
      show SI T X tg _ (M.bind _ (rngA (arity es)))
      rw [ha]
      exact si_rng1 (f.gl h2).1 hm j1 j2.1
    · have ha : arity es = 2 := by simpa using h4
      rw [List.all_cons, Bool.and_eq_true, List.all_cons, Bool.and_eq_true] at j2
      show SI T X tg _ (M.bind _ (rngA (arity es)))
      rw [ha]
      exact si_rng2 (f.gl h2).1 hm j1 j2.1 j2.2.1
    · cases h4
  | .zip2 es, c, X, f => by
    refine ⟨fun ex h => (by cases h), fun ex h => (by cases h), fun _ ex h => (by cases h), fun es h => (by cases h), fun tg ex hz h => ?_, fun es pos h hn => (by cases h), fun es pos h hn => (by cases h)⟩
    cases ex <;> first | (cases h; done) | skip
    simp only [mt] at h
    split at h <;> first | (cases h; done) | skip
    rename_i heq
    cases heq
    simp only [Bool.and_eq_true, decide_eq_true_eq] at h
    obtain ⟨⟨⟨rfl, h2⟩, h3⟩, h4⟩ := h
    obtain ⟨j1, j2, j3, _⟩ := (sound es c X f).a _ h3
    have hm := f.blt "zip" (by simp [bltNames])
    split at h4
    · rw [List.all_cons, Bool.and_eq_true, List.all_cons, Bool.and_eq_true] at j2
      cases tg <;> first | (cases hz; done) | skip
      exact si_zip (f.gl h2).1 hm j1 j2.1 j2.2.1
    · cases h4
  | .srt a, c, X, f => .of (f := fun c e => match e with | .Call (.Name x _) [.Call (.Name y _) [z] [] _] [] _ => decide (x = "sorted") && isGl c x && decide (y = "set") && isGl c y && notStar z && (mt P a).e c z | _ => false) rfl rfl fun ex h => by
    cases ex <;> first | (cases h; done) | skip
    split at h <;> first | (cases h; done) | skip
    rename_i heq
    cases heq
    simp only [Bool.and_eq_true, decide_eq_true_eq] at h
    obtain ⟨⟨⟨⟨⟨rfl, h2⟩, rfl⟩, h4⟩, h5⟩, h6⟩ := h
    exact ⟨se_srt (f.gl h2).1 (f.blt _ (by simp [bltNames])) (f.gl h4).1 (f.blt _ (by simp [bltNames])) f.calm h5 ((sound a c X f).o _ h6), rfl⟩
end
end Tp
/-! Tp16: the forms of statements. -/
namespace Tp
open PySem PySem.Spec PyProof.Rows L2
inductive IS where
  | nil
  | cons (s b : IS)
  | pass
  | brk
  | cont
  | never
  | ret (e : IE)
  | ret0
  | expr (e : IE)
  | ite (c : IE) (a b : IS)
  | asg (t : Tgt) (e : IE)
  | asgO (i : Nat) (e : IE)
  | par2 (o1 o2 : Bool) (i j : Nat) (a b : IE)
  | aug (sub : Bool) (i : Nat) (e : IE)
  | app (i : Nat) (e : IE)
  | set (i : Nat) (k e : IE)
  | for_ (t : Tgt) (iter : IE) (body : IS) (kill : List Nat)
  | while_ (c : IE) (body : IS) (kill : List Nat) (fuel : Nat)
def augF (sub : Bool) (i j : Int) : Int := if sub then i - j else i + j
/-- an expression whose value is a new object -/
def newable (P : PgI) : IE → Bool
  | .lst _ => true
  | .lc .. => true
  | .call g _ => (match P.fn g with | some i => i.own | none => false)
  | _ => false
section
variable (P : PgI) (cf : Nat → List D → FRes) (own : Bool)
def denS : IS → SM
  | .nil => nextM
  | .cons s b => seqM (denS s) (denS b)
  | .pass => nextM
  | .brk => .bk
  | .cont => .ct
  | .never => fun _ => .stuck
  | .ret e => onV (den P cf e).e .rt
  | .ret0 => .rt .none
  | .expr e => onV (den P cf e).e fun _ => .nx
  | .ite c a b => onB (den P cf c).b fun k => if k then denS a else denS b
  | .asg t e => onV (den P cf e).e fun d e => liftE (t.bind d e)
  | .asgO i e => onV (den P cf e).e fun d e => liftE (setO e i d)
  | .par2 o1 o2 i j a b => Tp.par2 o1 o2 i j (den P cf a).e (den P cf b).e
  | .aug sub i e => augM (augF sub) i (den P cf e).e
  | .app i e => appM i (den P cf e).e
  | .set i k e => setM i (den P cf k).e (den P cf e).e
  | .for_ t iter body kill => forM' (den P cf iter).s t (denS body) kill
  | .while_ c body kill fuel => whileLoop (den P cf c).b (denS body) kill fuel
structure MtS where
  s : MC → Stmt → Bool
  l : MC → List Stmt → Bool
def MtS.of (f : MC → Stmt → Bool) : MtS := ⟨f, fun _ _ => false⟩
def isLoc (c : MC) (i : Nat) (x : Str) : Bool := decide (c.N[i]? = some x) && (match c.sc.names.lookup x with | some .local => true | _ => false)
/-- a comprehension that is stored by its own name -/
def swapC (c : MC) (x : Str) (px : Pos) (ln : Nat) (e : Expr) : Bool := match e with
  | .ListComp _ _ sc pos => decide (px.line = pos.line) && !(sc.names.any fun p => p.1 == x && (p.2 == .local || p.2 == .cell)) && (match c.sc.names.lookup x with | some .local => true | _ => false)
  | _ => false
def noSwap (tg e : Expr) : Bool := !isTup e || !isTup tg
def foldSw (tg e : Expr) : Bool := match tg, e with
  | .Tuple ts _ _, .Tuple vs _ _ => vs.all (foldedForSure 8) && ts.all fun t => match t with | .Name .. => true | _ => false
  | _, _ => false
def isLc : IE → Bool
  | .lc .. => true
  | _ => false
def voC (o : Bool) (ie : IE) : Bool := !o || newable P ie
def mtS : IS → MtS
  | .nil => ⟨fun _ _ => false, fun _ l => l.isEmpty⟩
  | .cons s b => ⟨fun _ _ => false, fun c l => match l with | st :: l => (mtS s).s c st && (mtS b).l c l | [] => false⟩
  | .pass => .of fun _ st => match st with | .Pass _ => true | _ => false
  | .brk => .of fun _ st => match st with | .Break _ => true | _ => false
  | .cont => .of fun _ st => match st with | .Continue _ => true | _ => false
  | .never => .of fun _ _ => true
  | .ret e => .of fun c st => match st with | .Return (some x) _ => (mt P e).e c x && voC P own e | _ => false
  | .ret0 => .of fun _ st => match st with | .Return none _ => !own | _ => false
  | .expr e => .of fun c st => match st with | .Expr x _ => (mt P e).e c x && notComp x | _ => false
  | .ite t a b => .of fun c st => match st with | .If x sa sb _ => (mt P t).e c x && (mt P t).tb && (mtS a).l c sa && (mtS b).l c sb | _ => false
  | .asg t e => .of fun c st => match st with
    | .Assign [tg] x pos => mTgt c t tg && notStar tg && (mt P e).e c x && ((notComp x && noSwap tg x) || (match t, tg with | .one i, .Name y py => isLc e && isLoc c i y && swapC c y py pos.line x | _, _ => false))
    | _ => false
  | .asgO i e => .of fun c st => match st with
    | .Assign [.Name y py] x pos => newable P e && (mt P e).e c x && ((isTgt c i y && notComp x) || (isLc e && isLoc c i y && swapC c y py pos.line x))
    | _ => false
  | .par2 o1 o2 i j a b => .of fun c st => match st with
    | .Assign [.Tuple [.Name x px, .Name y py] _ _] (.Tuple [xa, xb] _ _) _ => isLoc c i x && isLoc c j y && decide (i ≠ j) && decide (x ≠ y) && decide (px.line = py.line) && notStar xa && notStar xb && (mt P a).e c xa && (mt P b).e c xb && voC P o1 a && voC P o2 b &&
        !(foldedForSure 8 xa && foldedForSure 8 xb) && !(constantsAlone 8 xa && constantsAlone 8 xb)
    | _ => false
  | .aug sub i e => .of fun c st => match st with
    | .AugAssign (.Name y _) op x _ => decide (op = (if sub then .Sub else .Add)) && isTgt c i y && (mt P e).e c x
    | _ => false
  | .app i e => .of fun c st => match st with
    | .Expr (.Call (.Attribute (.Name y _) at_ apos) [x] [] cpos) _ => decide (at_ = "append") && isVar c i y && (apos.endLine == cpos.line) && notStar x && (mt P e).e c x
    | _ => false
  | .set i k e => .of fun c st => match st with
    | .Assign [.Subscript (.Name y _) kx _] x _ => isVar c i y && (mt P k).e c kx && (mt P e).e c x && notComp x && notSlice kx
    | _ => false
  | .for_ t iter body kill => .of fun c st => match st with
    | .For tg it bd [] _ => mTgt c t tg && (mt P iter).s c it && notSet it && zipOk iter tg && (mtS body).l c bd
    | _ => false
  | .while_ t body kill fuel => .of fun c st => match st with
    | .While x bd [] _ => (mt P t).e c x && (mt P t).tb && (mtS body).l c bd
    | _ => false
end
structure FitsS (T : ExcT) (P : PgI) (cf : Nat → List D → FRes) (c : MC) (X : Cx) : Prop extends Fits T P cf c X where
  po : PassesOwn (model X.prog X.w) X.A X.env X.xe
  kind : X.env.scope.kind = .function
section
variable {T : ExcT} {P : PgI} {cf : Nat → List D → FRes} {own : Bool} {c : MC} {X : Cx}
theorem Fits.loc (f : Fits T P cf c X) {i : Nat} {x : Str} (h : isLoc c i x = true) : X.N[i]? = some x ∧ X.env.scope.names.lookup x = some .local := by
  unfold isLoc at h
  simp only [Bool.and_eq_true, decide_eq_true_eq] at h
  obtain ⟨h1, h2⟩ := h
  refine ⟨by rw [f.N]; exact h1, ?_⟩
  rw [f.sc]
  split at h2
  · assumption
  · cases h2
theorem FitsS.block (f : FitsS T P cf c X) : X.env.blockKind = .function := by
  unfold PySem.Env.blockKind
  rw [f.kind]
  rfl
theorem FitsS.swap (f : FitsS T P cf c X) {x : Str} {px : Pos} {ln : Nat} {ex : Expr} (h : swapC c x px ln ex = true) : swapsWith ex (some (.Name x px)) ln X.env = pure true := by
  cases ex <;> first | (cases h; done) | skip
  rename_i elt gens scope pos
  unfold swapC at h
  simp only [Bool.and_eq_true, decide_eq_true_eq] at h
  obtain ⟨⟨h1, h2⟩, h3⟩ := h
  have hk : X.env.kindOf x = some .local := by
    show X.env.scope.names.lookup x = _
    rw [f.sc]
    split at h3
    · assumption
    · cases h3
  show (pure (X.env.blockKind == .function && X.env.kindOf x == some .local && px.line == pos.line && !(scope.names.any fun p => p.1 == x && (p.2 == .local || p.2 == .cell))) : Sem Bool) = pure true
  rw [f.block, hk, h1, h2]
  simp
theorem FitsS.stores2 (f : FitsS T P cf c X) {x y : Str} {px py pt pt2 : Pos} {kt k2 : _} {a b : Expr} (hx : X.env.scope.names.lookup x = some .local) (hy : X.env.scope.names.lookup y = some .local) (hl : px.line = py.line) (hxy : x ≠ y) (na : notStar a = true) (nb : notStar b = true)
    (h1 : (foldedForSure 8 a && foldedForSure 8 b) = false) (h2 : (constantsAlone 8 a && constantsAlone 8 b) = false) : swappedStores [.Tuple [.Name x px, .Name y py] kt pt] (.Tuple [a, b] k2 pt2) X.env = pure (some [x, y]) := by
  have kx : X.env.kindOf x = some .local := hx
  have ky : X.env.kindOf y = some .local := hy
  have hd : [x, y].eraseDups = [x, y] := by
    have : (y == x) = false := by simpa using Ne.symm hxy
    simp [List.eraseDups_cons, this]
  have hs : ∀ e, notStar e = true → (match e with | .Starred .. => true | _ => false) = false := fun e h => by cases e <;> first | rfl | cases h
  unfold swappedStores
  simp [f.block, kx, ky, hl, hd, h1, h2]
  rw [if_neg (fun z => z.elim (fun z => Bool.false_ne_true ((hs a na).symm.trans z)) (fun z => Bool.false_ne_true ((hs b nb).symm.trans z)))]
  have hp : ∀ n p, (Expr.Name n p).pos = p := fun _ _ => rfl
  simp [hp, List.filterMap_cons, kx, ky, hl, hd]
theorem FitsS.fold (f : FitsS T P cf c X) {tg ex : Expr} (h : noSwap tg ex = true) : swappedStores [tg] ex X.env = pure none := stores_not (by
  unfold noSwap at h
  cases z : isTup ex with
  | false => exact .inl rfl
  | true =>
    rw [z] at h
    exact .inr (by simpa using h))
theorem sn_new {ie : IE} (f : Fits T P cf c X) (hn : newable P ie = true) : ∀ ex, (mt P ie).e c ex = true → SN T X ex (den P cf ie).e := fun ex h => by
  cases ie <;> first | (cases hn; done) | skip
  case lst es =>
    cases ex <;> first | (cases h; done) | skip
    exact sn_lst ((sound es c X f).a _ h).1
  case call g es =>
    cases ex <;> first | (cases h; done) | skip
    simp only [mt, Mt.of] at h
    split at h <;> first | (cases h; done) | skip
    rename_i heq
    cases heq
    cases hg : P.fn g with
    | none => rw [hg] at h; cases h
    | some i =>
      rw [hg] at h
      simp only [newable, hg] at hn
      simp only [Bool.and_eq_true, decide_eq_true_eq] at h
      obtain ⟨⟨rfl, h2⟩, h3⟩ := h
      obtain ⟨k1, k2⟩ := f.gl h2
      obtain ⟨j1, j2, j3, _⟩ := (sound es c X f).a _ h3
      have dn := f.defs g i hg
      rw [hn] at dn
      simp only [den, hg, Den.of]
      exact sn_call dn j1 k1 k2 j2 j3
  case lc t own elt iter cond =>
    cases ex <;> first | (cases h; done) | skip
    simp only [mt, Mt.of] at h
    split at h <;> first | (cases h; done) | skip
    rename_i heq
    cases heq
    simp only [Bool.and_eq_true, decide_eq_true_eq] at h
    obtain ⟨⟨⟨⟨⟨⟨⟨⟨rfl, h1⟩, h2⟩, hz⟩, h3⟩, h4⟩, h5⟩, h6⟩, h7⟩ := h
    refine lc_sn f ((sound iter c X f).s _ _ hz h1) (fun s H C cl fp => (sound elt _ _ (f.inner s H C cl fp)).e _ h6) h2 h3 h4 h5 ?_
    intro s H C cl fp
    split at h7
    · rw [h7]
      exact sc_nil
    · simp only [Bool.and_eq_true, Bool.not_eq_true'] at h7
      rw [h7.1.1]
      exact sc_one ((sound cond _ _ (f.inner s H C cl fp)).b h7.2 _ h7.1.2)
    · cases h7
theorem svo_of {ie : IE} (f : Fits T P cf c X) {o : Bool} (h : voC P o ie = true) {ex : Expr} (he : (mt P ie).e c ex = true) : SVO T X o ex (den P cf ie).e := by
  unfold SVO
  cases o with
  | false => exact (sound ie c X f).e ex he
  | true => exact sn_new f (by simpa [voC] using h) ex he
end
end Tp
/-! Tp17: the theorem over all forms of statements. -/
namespace Tp
open PySem PySem.Spec PyProof.Rows L2
section
variable {T : ExcT} {P : PgI} {cf : Nat → List D → FRes} {own : Bool} {c : MC} {X : Cx}
theorem lc_open (f : Fits T P cf c X) {t : Tgt} {cown : List Nat} {elt iter cond : IE} {ex : Expr} (h : (mt P (.lc t cown elt iter cond)).e c ex = true) :
    ∃ x tg it ifs scope pos, ex = .ListComp x [⟨tg, it, ifs, 0⟩] scope pos ∧ SI T X tg it (if pureIE P elt && pureIE P cond then (den P cf iter).s else noOwn (den P cf iter).s) ∧
      BlkS T X scope x tg ifs t (if isNil cond then M.pure true else (den P cf cond).b) (den P cf elt).e ∧ BlkOk X.N X.env.scope scope (blkOwn c cown) ∧ (∀ i ∈ t.slots, i ∈ (blkOwn c cown).map (·.2)) ∧
      SrcM (if pureIE P elt && pureIE P cond then (den P cf iter).s else noOwn (den P cf iter).s) ∧ (NoOwn (if pureIE P elt && pureIE P cond then (den P cf iter).s else noOwn (den P cf iter).s) ∨ (PureM (if isNil cond then M.pure true else (den P cf cond).b) ∧ PureM (den P cf elt).e)) ∧ notSet it = true := by
  cases ex <;> first | (cases h; done) | skip
  simp only [mt, Mt.of] at h
  split at h <;> first | (cases h; done) | skip
  rename_i heq
  cases heq
  simp only [Bool.and_eq_true, decide_eq_true_eq] at h
  obtain ⟨⟨⟨⟨⟨⟨⟨⟨rfl, h1⟩, h2⟩, hz⟩, h3⟩, h4⟩, h5⟩, h6⟩, h7⟩ := h
  have hi := (sound iter c X f).s _ _ hz h1
  refine ⟨_, _, _, _, _, _, rfl, ?_, ⟨fun s H C cl fp => (f.inner s H C cl fp).target h3, fun s H C cl fp => ?_, fun s H C cl fp => (sound elt _ _ (f.inner s H C cl fp)).e _ h6⟩, ?_, ?_, ?_, ?_, h2⟩
  · split
    · exact hi
    · exact hi.noOwn
  · split at h7
    · rw [h7]
      exact sc_nil
    · simp only [Bool.and_eq_true, Bool.not_eq_true'] at h7
      rw [h7.1.1]
      exact sc_one ((sound cond _ _ (f.inner s H C cl fp)).b h7.2 _ h7.1.2)
    · cases h7
  · rw [f.N, f.sc]
    exact blkOk_by h5
  · rw [blkOwn_snd]
    intro i hi
    exact of_decide_eq_true (List.all_eq_true.mp h4 i hi)
  · split
    · exact srcM iter
    · exact srcM_noOwn (srcM iter)
  · split
    · rename_i h
      rw [Bool.and_eq_true] at h
      exact .inr ⟨PureM.ite (PureM.pure _) (pureD cond h.2).b, (pureD elt h.1).e⟩
    · exact .inl noOwn_no
structure OkS (T : ExcT) (P : PgI) (cf : Nat → List D → FRes) (own : Bool) (c : MC) (X : Cx) (is : IS) : Prop where
  s : ∀ st, (mtS P own is).s c st = true → SS T X own st (denS P cf is)
  l : ∀ st, (mtS P own is).l c st = true → SSs T X own st (denS P cf is)
theorem OkS.of {is : IS} {g : MC → Stmt → Bool} (hm : mtS P own is = MtS.of g) (h : ∀ st, g c st = true → SS T X own st (denS P cf is)) : OkS T P cf own c X is where
  s := fun st q => by rw [hm] at q; exact h st q
  l := fun st q => by rw [hm] at q; cases q
theorem soundS : ∀ (is : IS) (X : Cx), FitsS T P cf c X → OkS T P cf own c X is
  | .nil, X, f => ⟨fun st h => (by cases h), fun st h => (by cases st <;> first | exact sss_nil | cases h)⟩
  | .cons s b, X, f => by
      refine ⟨fun st h => (by cases h), fun st h => ?_⟩
      cases st with
      | nil => cases h
      | cons a r =>
        have h' : ((mtS P own s).s c a && (mtS P own b).l c r) = true := h
        rw [Bool.and_eq_true] at h'
        exact sss_cons ((soundS s X f).s a h'.1) ((soundS b X f).l r h'.2)
  | .pass, X, f => .of rfl fun st h => by cases st <;> first | (cases h; done) | exact ss_pass
  | .brk, X, f => .of rfl fun st h => by cases st <;> first | (cases h; done) | exact ss_break
  | .cont, X, f => .of rfl fun st h => by cases st <;> first | (cases h; done) | exact ss_cont
  | .never, X, f => .of rfl fun st h => ss_never
  | .ret e, X, f => .of rfl fun st h => by
      cases st <;> first | (cases h; done) | skip
      split at h <;> first | (cases h; done) | skip
      rename_i heq
      cases heq
      rw [Bool.and_eq_true] at h
      have q := svo_of f.toFits h.2 h.1
      cases own with
      | false => exact ss_ret q
      | true => exact ss_retN q
  | .ret0, X, f => .of rfl fun st h => by
      cases st <;> first | (cases h; done) | skip
      split at h <;> first | (cases h; done) | skip
      rename_i heq
      cases heq
      cases own with
      | false => exact ss_ret0
      | true => cases h
  | .expr e, X, f => .of rfl fun st h => by
      cases st <;> first | (cases h; done) | skip
      simp only [Bool.and_eq_true] at h
      exact ss_expr ((sound e c X f.toFits).e _ h.1) h.2
  | .ite t a b, X, f => .of rfl fun st h => by
      cases st <;> first | (cases h; done) | skip
      simp only [Bool.and_eq_true] at h
      exact ss_if ((sound t c X f.toFits).b h.1.1.2 _ h.1.1.1) ((soundS a X f).l _ h.1.2) ((soundS b X f).l _ h.2)
  | .asg t e, X, f => .of rfl fun st h => by
      cases st <;> first | (cases h; done) | skip
      split at h <;> first | (cases h; done) | skip
      rename_i heq
      cases heq
      rename_i tg x pos
      rw [Bool.and_eq_true, Bool.and_eq_true, Bool.and_eq_true, Bool.or_eq_true, Bool.and_eq_true] at h
      obtain ⟨⟨⟨h1, h2⟩, h3⟩, ⟨h4, h5⟩ | h4⟩ := h
      · exact ss_asg ((sound e c X f.toFits).e _ h3) (f.toFits.target h1) h4 h2 (f.fold h5)
      · split at h4 <;> first | (cases h4; done) | skip
        rename_i i y py
        simp only [Bool.and_eq_true] at h4
        obtain ⟨⟨h5, h6⟩, h7⟩ := h4
        cases e <;> first | (cases h5; done) | skip
        rename_i t cown elt iter cond
        obtain ⟨x, tgc, it, ifs, scope, cpos, rfl, k1, k2, k3, k4, k5, k6, k7⟩ := lc_open f.toFits h3
        obtain ⟨j1, j2⟩ := f.toFits.loc h6
        have := ss_lc (own := own) f.calm f.nd j1 j2 (f.swap h7) k1 k2 k3 k4 k5 k6 k7
        rw [blkOwn_snd] at this
        exact this
  | .asgO i e, X, f => .of rfl fun st h => by
      cases st <;> first | (cases h; done) | skip
      split at h <;> first | (cases h; done) | skip
      rename_i heq
      cases heq
      rename_i y py x pos
      simp only [Bool.and_eq_true, Bool.or_eq_true] at h
      obtain ⟨⟨h1, h2⟩, ⟨h3, h4⟩ | ⟨⟨h3, h4⟩, h5⟩⟩ := h
      · obtain ⟨k1, k2, k3⟩ := f.toFits.tgt h3
        exact ss_asgO (sn_new f.toFits h1 _ h2) f.nd k1 k2 k3 h4
      · cases e <;> first | (cases h3; done) | skip
        rename_i t cown elt iter cond
        obtain ⟨x, tgc, it, ifs, scope, cpos, rfl, k1, k2, k3, k4, k5, k6, k7⟩ := lc_open f.toFits h2
        obtain ⟨j1, j2⟩ := f.toFits.loc h4
        have := ss_lcO (own := own) f.calm f.nd j1 j2 (f.swap h5) k1 k2 k3 k4 k5 k6 k7
        rw [blkOwn_snd] at this
        exact this
  | .par2 o1 o2 i j a b, X, f => .of rfl fun st h => by
      cases st <;> first | (cases h; done) | skip
      split at h <;> first | (cases h; done) | skip
      rename_i heq
      cases heq
      simp only [Bool.and_eq_true, decide_eq_true_eq, Bool.not_eq_true'] at h
      obtain ⟨⟨⟨⟨⟨⟨⟨⟨⟨⟨⟨⟨h1, h2⟩, h3⟩, h4⟩, h5⟩, h6⟩, h7⟩, h8⟩, h9⟩, h10⟩, h11⟩, h12⟩, h13⟩ := h
      obtain ⟨k1, k2⟩ := f.toFits.loc h1
      obtain ⟨k3, k4⟩ := f.toFits.loc h2
      exact ss_par2 (svo_of f.toFits h10 h8) (svo_of f.toFits h11 h9) f.calm f.nd k1 k3 h3 k2 k4 h6 h7 (f.stores2 k2 k4 h5 h4 h6 h7 h12 h13)
  | .aug sub i e, X, f => .of rfl fun st h => by
      cases st <;> first | (cases h; done) | skip
      split at h <;> first | (cases h; done) | skip
      rename_i heq
      cases heq
      simp only [Bool.and_eq_true, decide_eq_true_eq] at h
      obtain ⟨⟨rfl, h2⟩, h3⟩ := h
      obtain ⟨k1, k2, k3⟩ := f.toFits.tgt h2
      cases sub with
      | false => exact ss_aug ip_add ((sound e c X f.toFits).e _ h3) f.nd k1 k2 k3
      | true => exact ss_aug ip_sub ((sound e c X f.toFits).e _ h3) f.nd k1 k2 k3
  | .app i e, X, f => .of rfl fun st h => by
      cases st <;> first | (cases h; done) | skip
      split at h <;> first | (cases h; done) | skip
      rename_i heq
      cases heq
      simp only [Bool.and_eq_true, decide_eq_true_eq] at h
      obtain ⟨⟨⟨⟨rfl, h2⟩, h3⟩, h4⟩, h5⟩ := h
      obtain ⟨k1, k2, k3, k4⟩ := f.toFits.var h2
      exact ss_append ((sound e c X f.toFits).e _ h5) k1 k2 k3 k4 h3 h4
  | .set i k e, X, f => .of rfl fun st h => by
      cases st <;> first | (cases h; done) | skip
      split at h <;> first | (cases h; done) | skip
      rename_i heq
      cases heq
      simp only [Bool.and_eq_true] at h
      obtain ⟨⟨⟨⟨h1, h2⟩, h3⟩, h4⟩, h5⟩ := h
      obtain ⟨k1, k2, k3, k4⟩ := f.toFits.var h1
      exact ss_set ((sound e c X f.toFits).e _ h3) ((sound k c X f.toFits).e _ h2) k1 k2 k3 k4 h4 h5
  | .for_ t iter body kill, X, f => .of rfl fun st h => by
      cases st <;> first | (cases h; done) | skip
      split at h <;> first | (cases h; done) | skip
      rename_i heq
      cases heq
      simp only [Bool.and_eq_true] at h
      obtain ⟨⟨⟨⟨h1, h2⟩, h3⟩, hz⟩, h4⟩ := h
      exact ss_for f.po f.calm ((sound iter c X f.toFits).s _ _ hz h2) (f.toFits.target h1) ((soundS body X f).l _ h4) h3
  | .while_ t body kill fuel, X, f => .of rfl fun st h => by
      cases st <;> first | (cases h; done) | skip
      split at h <;> first | (cases h; done) | skip
      rename_i heq
      cases heq
      simp only [Bool.and_eq_true] at h
      obtain ⟨⟨h1, h2⟩, h3⟩ := h
      exact ss_while f.po ((sound t c X f.toFits).b h2 _ h1) ((soundS body X f).l _ h3)
end
end Tp
/-! Tp18: a def keeps the promise that its form tells; a whole text of defs. -/
namespace Tp
open PySem PySem.Spec PyProof.Rows L2
structure FD where
  name : Str
  ps : List Str
  N : List Str
  io : Option Nat
  own : Bool
  body : IS
/-- the defs (by number) and the constants of a text -/
structure PG where
  fns : List (Nat × FD)
  gl : List (Str × D)
def PG.I (G : PG) : PgI := { fn := fun g => (G.fns.lookup g).map fun f => ⟨f.name, f.io, f.own⟩, gl := G.gl }
def initV : List D → Env
  | [] => []
  | d :: ds => .val d :: initV ds
def initN : Nat → List D → Env
  | _, [] => []
  | 0, d :: ds => .io d :: initV ds
  | n + 1, d :: ds => .val d :: initN n ds
def initE : Option Nat → List D → Env
  | none => initV
  | some n => initN n
def outE (io : Option Nat) (e : Env) (k : D → FRes) : FRes := match io with
  | none => k .none
  | some i => match e[i]? with | some (.io d) => k d | _ => .stuck
def endB (io : Option Nat) (own : Bool) : Out → FRes
  | .rt d e => outE io e fun out => .ok d out
  | .nx e => if own then .stuck else outE io e fun out => .ok .none out
  | .exc c x e => outE io e fun out => .exc c x out
  | _ => .stuck
def runB (P : PgI) (cf : Nat → List D → FRes) (fd : FD) (ds : List D) : FRes :=
  if ds.length = fd.ps.length then endB fd.io fd.own (denS P cf fd.body (initE fd.io ds ++ List.replicate (fd.N.length - fd.ps.length) .no)) else .stuck
/-- the text's defs, n deep -/
def run (G : PG) : Nat → Nat → List D → FRes
  | 0, _, _ => .stuck
  | n + 1, g, ds => match G.fns.lookup g with
    | none => .stuck
    | some fd => runB G.I (run G n) fd ds
theorem initV_len : ∀ ds : List D, (initV ds).length = ds.length
  | [] => rfl
  | _ :: ds => congrArg Nat.succ (initV_len ds)
theorem initN_len : ∀ (n : Nat) (ds : List D), (initN n ds).length = ds.length
  | 0, [] => rfl
  | _ + 1, [] => rfl
  | 0, _ :: ds => congrArg Nat.succ (initV_len ds)
  | n + 1, _ :: ds => congrArg Nat.succ (initN_len n ds)
theorem initE_len (io : Option Nat) (ds : List D) : (initE io ds).length = ds.length := by
  cases io with
  | none => exact initV_len ds
  | some n => exact initN_len n ds
theorem initV_get : ∀ (ds : List D) (i : Nat), (initV ds)[i]? = (ds[i]?).map .val
  | [], i => rfl
  | d :: ds, 0 => rfl
  | d :: ds, i + 1 => initV_get ds i
theorem initN_get : ∀ (n : Nat) (ds : List D) (i : Nat), (initN n ds)[i]? = (ds[i]?).map fun d => if n = i then .io d else .val d
  | 0, [], i => rfl
  | _ + 1, [], i => rfl
  | 0, d :: ds, 0 => rfl
  | 0, d :: ds, i + 1 => by
    show (initV ds)[i]? = _
    rw [initV_get]
    simp
  | n + 1, d :: ds, 0 => rfl
  | n + 1, d :: ds, i + 1 => by
    show (initN n ds)[i]? = _
    rw [initN_get]
    simp
theorem initE_get (io : Option Nat) (ds : List D) (i : Nat) : (initE io ds)[i]? = (ds[i]?).map fun d => if io = some i then .io d else .val d := by
  cases io with
  | none =>
    rw [show initE none = initV from rfl, initV_get]
    simp
  | some n =>
    rw [show initE (some n) = initN n from rfl, initN_get]
    simp
/-- the slots of an entry -/
theorem entry_get {io : Option Nat} {ds : List D} {m i : Nat} {sl : Slot} (h : (initE io ds ++ List.replicate m .no)[i]? = some sl) : sl = .no ∨ ∃ d, ds[i]? = some d ∧ sl = if io = some i then .io d else .val d := by
  by_cases hi : i < (initE io ds).length
  · rw [List.getElem?_append_left hi, initE_get] at h
    obtain ⟨d, h1, h2⟩ := Option.map_eq_some_iff.mp h
    exact .inr ⟨d, h1, h2.symm⟩
  · rw [List.getElem?_append_right (by omega), List.getElem?_replicate] at h
    split at h
    · exact .inl (Option.some.inj h).symm
    · cases h
theorem entry_in {io : Option Nat} {ds : List D} {m i : Nat} {d : D} (h : ds[i]? = some d) : (initE io ds ++ List.replicate m .no)[i]? = some (if io = some i then .io d else .val d) := by
  have hi : i < (initE io ds).length := by rw [initE_len]; exact (List.getElem?_eq_some_iff.mp h).1
  rw [List.getElem?_append_left hi, initE_get, h]
  rfl
def iosOf (io : Option Nat) (vs : List V) : List (Nat × Addr) := match io with
  | none => []
  | some i => match ioA (some i) vs with | some a => [(i, a)] | none => []
theorem start_get {N : List Str} {vs : List V} {i : Nat} {v : V} (h : vs[i]? = some v) : (L2.start N vs)[i]? = some (some v) := by
  unfold L2.start
  have hi : i < (vs.map some).length := by rw [List.length_map]; exact (List.getElem?_eq_some_iff.mp h).1
  rw [List.getElem?_append_left hi, List.getElem?_map, h]
  rfl
theorem sr_start {K : Fg} {G H : Hp} {io : Option Nat} {ds : List D} {vs : List V} {N ps : List Str} {W : WX} (l : LeG G H) (ar : ArgsR K G H io ds vs) (hl : ds.length = ps.length) (hN : ps.length ≤ N.length) :
    SR K ⟨H, G, iosOf io vs, [], W⟩ (L2.start N vs) H (initE io ds ++ List.replicate (N.length - ps.length) .no) G := by
  have hv : ds.length = vs.length := ar.length
  refine ⟨l, ?_, fun i d h => ?_, fun i d h => ?_, fun i d h => ?_, fun p hp => ?_, fun i j d d' a hij h1 h2 _ _ => ?_, fun b o _ h => h, LeG.refl, fun b o h => .inl h, fun p hp => by cases hp⟩
  · unfold L2.start
    simp only [List.length_append, List.length_replicate, List.length_map, initE_len]
    omega
  · rcases entry_get h with z | ⟨d', h1, h2⟩
    · cases z
    · split at h2
      · cases h2
      · rename_i n
        cases h2
        obtain ⟨v, h3, h4⟩ := ar.val n h1
        exact ⟨v, start_get h3, h4⟩
  · rcases entry_get h with z | ⟨d', h1, h2⟩
    · cases z
    · split at h2 <;> cases h2
  · rcases entry_get h with z | ⟨d', h1, h2⟩
    · cases z
    · split at h2
      · rename_i e
        subst e
        cases h2
        obtain ⟨a, d2, h3, h4, ow⟩ := ArgsR.io ar
        rw [h1] at h4
        cases h4
        refine ⟨a, ?_, ow, fun p hp => by cases hp⟩
        unfold iosOf
        simp [ioA, h3]
      · cases h2
  · unfold iosOf at hp
    cases io with
    | none => cases hp
    | some i =>
      obtain ⟨a, d2, h3, h4, ow⟩ := ArgsR.io ar
      simp only [ioA, h3] at hp
      rw [List.mem_singleton] at hp
      subst hp
      exact ⟨start_get h3, d2, by rw [entry_in h4]; simp⟩
  · have fn : ∀ {i : Nat} {d : D}, ((initE io ds ++ List.replicate (N.length - ps.length) .no)[i]?.bind Slot.mine?) = some d → io = some i := fun {i d} h => by
      cases q : (initE io ds ++ List.replicate (N.length - ps.length) .no)[i]? with
      | none => rw [q] at h; cases h
      | some sl =>
        rw [q] at h
        rcases entry_get q with z | ⟨d', k1, k2⟩
        · subst z; cases h
        · split at k2
          · assumption
          · subst k2; cases h
    have e1 := fn h1
    have e2 := fn h2
    rw [e1] at e2
    exact hij (Option.some.inj e2)
theorem outE_ok {K : Fg} {T : ExcT} {own : Bool} {G H G' H' : Hp} {io : Option Nat} {vs : List V} {W : WX} {σ : L2.St} {e : Env} {r : FRes} {k : D → FRes} (s : SR K ⟨H, G, iosOf io vs, [], W⟩ σ H' e G') (hr : outE io e k = r) (hn : r ≠ .stuck) :
    ∃ out, r = k out ∧ CallEnd (ioA io vs) G H G' H' ∧ OutR K (ioA io vs) G' H' out := by
  have ce : CallEnd (ioA io vs) G H G' H' := by
    refine ⟨fun b o hb h => s.keep b o ?_ h, s.gk, s.le, s.fresh⟩
    show b ∉ (iosOf io vs).map (·.2)
    unfold iosOf
    cases io with
    | none => exact fun z => by cases z
    | some i =>
      simp only
      cases q : ioA (some i) vs with
      | none => exact fun z => by cases z
      | some a =>
        rw [q] at hb
        simp only [List.map_cons, List.map_nil, List.mem_singleton]
        exact fun z => hb (by rw [z])
  unfold outE at hr
  cases io with
  | none => exact ⟨_, hr.symm, ce, trivial⟩
  | some i =>
    simp only at hr
    cases q : e[i]? with
    | none => rw [q] at hr; exact absurd hr.symm hn
    | some sl =>
      rw [q] at hr
      cases sl with
      | io d =>
        obtain ⟨a, h1, h2, _⟩ := s.iosl i d q
        refine ⟨d, hr.symm, ce, ?_⟩
        have h1' : (i, a) ∈ iosOf (some i) vs := h1
        unfold iosOf at h1'
        simp only at h1'
        cases q2 : ioA (some i) vs with
        | none => rw [q2] at h1'; cases h1'
        | some a' =>
          rw [q2] at h1'
          rw [List.mem_singleton] at h1'
          cases h1'
          exact h2
      | _ => exact absurd hr.symm hn
def SpEnd (T : ExcT) (K : Fg) (io : Option Nat) (own : Bool) (vs : List V) (G H : Hp) (Q : VK) (E : XK) (r : FRes) : Prop :=
  match r with
  | .ok d out => ∀ v G' H', CallEnd (ioA io vs) G H G' H' → OutR K (ioA io vs) G' H' out → (if own = true then ∃ p, v = .ref p ∧ H p = none ∧ OwnAt K G' H' p d else RD K G' d v) → Q v H'
  | .exc c x out => ∀ cls dd G' H', CallEnd (ioA io vs) G H G' H' → OutR K (ioA io vs) G' H' out → ExcOk T K G' H' c x cls dd → E cls dd H'
  | .stuck => False
section
variable {P : Program} {w : World} {K : Fg} {mg : Str → Option Value} {base : Heap} {T : ExcT}
/-- a body that has its form, around its callees -/
theorem body_ok {PI : PgI} {cf : Nat → List D → FRes} {fd : FD} {X : Cx} {bd : List Stmt} {vs : List V} {H : Hp} {Q : VK} {E : XK} {c : MC} (f : FitsS T PI cf c X) (hc : (mtS PI fd.own fd.body).l c bd = true) (hX : X.K = K) (hN : fd.ps.length ≤ fd.N.length)
    (tk : Takes X (fun cls d _ H => E cls d H) ∨ ∀ cls d H, ¬ E cls d H) (h : spOf T K fd.io fd.own (runB PI cf fd) vs H Q E) :
    ∃ t, PSs X bd t ∧ t { nx := fun _ H' => Q .non H', rt := Q } (L2.start fd.N vs) H := by
  obtain ⟨G, ds, le, ar, q⟩ := h
  subst hX
  have tk' : Takes X (fun cls d _ H => E cls d H) := by
    rcases tk with tk | tk
    · exact tk
    · exact fun u s' ⟨_, _, _, _, _, _, _, _, _, _, _, _, _, _, _, _, z⟩ => (tk _ _ _ z).elim
  refine ⟨_, (soundS fd.body X f).l bd hc ⟨H, G, iosOf fd.io vs, [], fun cls d _ H => E cls d H⟩ tk', ?_⟩
  have q : SpEnd T X.K fd.io fd.own vs G H Q E (runB PI cf fd ds) := q
  unfold runB at q
  by_cases hlen : ds.length = fd.ps.length
  · rw [if_pos hlen] at q
    refine ⟨_, G, sr_start le ar hlen hN, ?_⟩
    have nst : ∀ {r : FRes}, SpEnd T X.K fd.io fd.own vs G H Q E r → r ≠ .stuck := fun h z => by rw [z] at h; exact h
    generalize denS PI cf fd.body (initE fd.io ds ++ List.replicate (fd.N.length - fd.ps.length) .no) = o at q ⊢
    cases o with
    | nx e =>
      intro σ H' G' s l
      unfold endB at q
      simp only at q
      cases ho : fd.own with
      | true => rw [ho, if_pos rfl] at q; exact q.elim
      | false =>
        rw [ho, if_neg (by simp)] at q
        obtain ⟨out, h1, h2, h3⟩ := outE_ok (T := T) (own := fd.own) s rfl (by rw [ho] at nst; exact nst q)
        rw [h1] at q
        exact q .non G' H' h2 h3 (by rw [if_neg (by simp)]; exact .non)
    | rt d e =>
      unfold endB at q
      simp only at q
      unfold AftS
      simp only
      cases ho : fd.own with
      | true =>
        rw [if_pos rfl]
        intro p o σ H' G' n s l ow
        obtain ⟨out, h1, h2, h3⟩ := outE_ok (T := T) (own := fd.own) s.unplus rfl (nst q)
        rw [h1] at q
        exact q _ G' H' h2 h3 (by rw [ho, if_pos rfl]; exact ⟨p, rfl, (s.res (p, o) List.mem_cons_self).2.2, ow⟩)
      | false =>
        rw [if_neg (by simp)]
        intro v σ H' G' s l r
        obtain ⟨out, h1, h2, h3⟩ := outE_ok (T := T) (own := fd.own) s rfl (nst q)
        rw [h1] at q
        exact q _ G' H' h2 h3 (by rw [ho, if_neg (by simp)]; exact r)
    | exc cc x e =>
      intro cls dd σ H' G' s l ex
      unfold endB at q
      simp only at q
      obtain ⟨out, h1, h2, h3⟩ := outE_ok (T := T) (own := fd.own) s rfl (nst q)
      rw [h1] at q
      exact q cls dd G' H' h2 h3 ex
    | bk e => exact q.elim
    | ct e => exact q.elim
    | stuck => exact q.elim
  · rw [if_neg hlen] at q
    exact q.elim
end
end Tp
/-! Tp19: all defs of a text; the law. -/
namespace Tp
open PySem PySem.Spec PyProof.Rows L2
structure FnFact (PI : PgI) (K : Fg) (mg : Str → Option Value) (fd : FD) : Prop where
  ex : ∃ (f : Addr) (fdt : FuncData) (params : Arguments) (body : List Stmt) (scope : Scope), FunD K fd.name fd.name params body scope [] [] f fdt ∧ mg fd.name = some (.ref f) ∧ FnScope fd.N fd.ps scope ∧ (mtS PI fd.own fd.body).l ⟨fd.N, scope, true⟩ body = true ∧ Binds K fdt fd.ps []
structure TextOk (G : PG) (K : Fg) (mg : Str → Option Value) : Prop where
  fns : ∀ (g : Nat) (fd : FD), G.fns.lookup g = some fd → FnFact G.I K mg fd
  gls : ∀ x d, G.gl.lookup x = some d → ∃ u v, mg x = some u ∧ RelV v u ∧ ∀ G', RD K G' d v
  blt : ∀ x ∈ bltNames, mg x = none
section
variable {P : Program} {w : World} {K : Fg} {mg : Str → Option Value} {base : Heap} {T : ExcT} {G : PG}
/-- the n deep text keeps its promises -/
def RunOk (T : ExcT) (P : Program) (w : World) (K : Fg) (mg : Str → Option Value) (base : Heap) (G : PG) (n : Nat) : Prop :=
  ∀ (g : Nat) (fd : FD), G.fns.lookup g = some fd → ∃ (f : Addr) (fdt : FuncData), FnOk P w K mg base (L2.CX P w) n f fdt fd.ps (spOf T K fd.io fd.own (run G n g)) ∧ mg fd.name = some (.ref f) ∧ PySem.W.keepIn K (.ref f) = true ∧ Binds K fdt fd.ps []
theorem pre_len {N ps : List Str} (h : N.take ps.length = ps) : ps.length ≤ N.length := by
  have := congrArg List.length h
  rw [List.length_take] at this
  omega
theorem fits_of (tx : TextOk G K mg) {n : Nat} (ih : RunOk T P w K mg base G n) {fd : FD} {scope : Scope} {X : Cx} (e1 : X.prog = P) (e2 : X.w = w) (e3 : X.K = K) (e4 : X.mg = mg) (e5 : X.base = base) (S : FnScope fd.N fd.ps scope) (hN : X.N = fd.N) (hs : X.env.scope = scope) (hc : X.calm = true) (hf : ∀ x, X.fn x = true) (hr : Room n X.A) :
    Fits T G.I (run G n) ⟨fd.N, scope, true⟩ X := by
  subst e1 e2 e3 e4 e5
  refine ⟨hN, hs, by rw [hN]; exact S.nd, hc, ?_, fun _ => hf, fun g i hg => ?_, tx.gls, tx.blt⟩
  · have := hr.un
    omega
  · obtain ⟨fd', h1, h2⟩ := Option.map_eq_some_iff.mp (show (G.fns.lookup g).map (fun f => FnI.mk f.name f.io f.own) = some i from hg)
    subst h2
    obtain ⟨f, fdt, k1, k2, k3, k4⟩ := ih g fd' h1
    exact ⟨⟨f, fdt, n, fd'.ps, k1, hr, k2, k3, k4⟩⟩
theorem args_len {fd : FD} {PI : PgI} {cf : Nat → List D → FRes} {vs : List V} {H : Hp} {Q : VK} {E : XK} (h : spOf T K fd.io fd.own (runB PI cf fd) vs H Q E) : vs.length = fd.ps.length := by
  obtain ⟨G, ds, le, ar, q⟩ := h
  have q : SpEnd T K fd.io fd.own vs G H Q E (runB PI cf fd ds) := q
  unfold runB at q
  by_cases hlen : ds.length = fd.ps.length
  · rw [← hlen]
    exact ar.length.symm
  · rw [if_neg hlen] at q
    exact q.elim
theorem spOf_cg {io : Option Nat} {own : Bool} {f f' : List D → FRes} (e : ∀ ds, f ds = f' ds) : spOf T K io own f = spOf T K io own f' := by
  have : f = f' := funext e
  rw [this]
theorem run_ok (tx : TextOk G K mg) : ∀ n, RunOk T P w K mg base G n
  | 0 => fun g fd h => by
    obtain ⟨f, fdt, params, body, scope, k1, k2, k3, k4, k5⟩ := (tx.fns g fd h).ex
    refine ⟨f, fdt, ⟨fun vs H Q E q => ?_, fun A outer s H args us vs Q E hr he hb hv q => ?_⟩, k2, k1.kp, k5⟩
    · obtain ⟨_, _, _, _, q⟩ := q
      exact q.elim
    · obtain ⟨_, _, _, _, q⟩ := q
      exact q.elim
  | n + 1 => fun g fd h => by
    obtain ⟨f, fdt, params, body, scope, k1, k2, k3, k4, k5⟩ := (tx.fns g fd h).ex
    refine ⟨f, fdt, ?_, k2, k1.kp, k5⟩
    rw [show spOf T K fd.io fd.own (run G (n + 1) g) = spOf T K fd.io fd.own (runB G.I (run G n) fd) from spOf_cg fun ds => by simp only [run, h]]
    refine k1.ok k3 (fun vs H Q E q => args_len q) fun cdv A outer s H vs Q E hr q => ?_
    refine body_ok (T := T) ⟨fits_of tx (run_ok tx n) rfl rfl rfl rfl rfl k3 rfl rfl rfl (fun _ => rfl) hr, passes_of rfl, k3.kind⟩ k4 rfl (pre_len k3.pre) (.inl (takes_of rfl rfl rfl rfl)) q
/-- the law's def: nothing is let out -/
theorem law_ok (tx : TextOk G K mg) {n : Nat} {fd : FD} {f : Addr} {fdt : FuncData} {params : Arguments} {body : List Stmt} {scope : Scope} {qual x : Str} (k1 : FunD K x qual params body scope [] [] f fdt) (k3 : FnScope fd.N fd.ps scope) (k4 : (mtS G.I fd.own fd.body).l ⟨fd.N, scope, true⟩ body = true) :
    FnOk P w K mg base CX0 (n + 1) f fdt fd.ps (fun vs H Q E => (∀ c d H, ¬ E c d H) ∧ spOf T K fd.io fd.own (runB G.I (run G n) fd) vs H Q E) := by
  refine k1.ok k3 (fun vs H Q E q => args_len q.2) fun cdv A outer s H vs Q E hr q => ?_
  obtain ⟨t, h1, h2⟩ := body_ok (T := T) (X := (cxOf CX0 P w K mg base fd.N qual scope f cdv A outer s H E).nox) ⟨fits_of tx (run_ok tx n) rfl rfl rfl rfl rfl k3 rfl rfl rfl (fun _ => rfl) hr, PassesOwn.never, k3.kind⟩ k4 rfl (pre_len k3.pre) (.inr q.1) q.2
  exact ⟨t, h1.nox, h2⟩
end
theorem lookup_mem {β : Type} {g : Nat} {b : β} : ∀ {l : List (Nat × β)}, l.lookup g = some b → (g, b) ∈ l
  | [], h => by cases h
  | (k, v) :: l, h => by
    rw [List.lookup_cons] at h
    cases q : g == k with
    | true =>
      rw [q] at h
      have : g = k := by simpa using q
      subst this
      cases h
      exact List.mem_cons_self
    | false =>
      rw [q] at h
      exact List.mem_cons_of_mem _ (lookup_mem h)
/-- facts of the head that a text asks -/
def faOf (G : PG) (law : Str) : List He.Fa := .glo law :: (G.fns.map (fun p => He.Fa.glo p.2.name) ++ bltNames.map He.Fa.free)
def defOf (x : Str) (st : Stmt) : He.DefD := ⟨(x, none), x, x, defArgs st, defBody st, defScope st, [], []⟩
def notFree : NameKind → Bool
  | .free => false
  | _ => true
def isLC (sc : Scope) (x : Str) : Bool := match sc.names.lookup x with | some .local => true | some .cell => true | _ => false
def scB (N ps : List Str) (sc : Scope) : Bool :=
  (match sc.kind with | .function => true | _ => false) && !sc.isCoroutine && !sc.isGenerator && decide N.Nodup && decide (N.take ps.length = ps) && ps.all (isLC sc) && sc.names.all fun y => notFree y.2
theorem scB_ok {N ps : List Str} {sc : Scope} (h : scB N ps sc = true) : FnScope N ps sc := by
  unfold scB at h
  simp only [Bool.and_eq_true, Bool.not_eq_true', decide_eq_true_eq, List.all_eq_true] at h
  obtain ⟨⟨⟨⟨⟨⟨h1, h2⟩, h3⟩, h4⟩, h5⟩, h6⟩, h7⟩ := h
  refine ⟨?_, h2, h3, h4, h5, fun x hx => ?_, fun y hy e => ?_⟩
  · split at h1
    · assumption
    · cases h1
  · have := h6 x hx
    unfold isLC at this
    split at this
    · exact .inl (by assumption)
    · exact .inr (by assumption)
    · cases this
  · have := h7 y hy
    rw [e] at this
    cases this
/-- of a def's statement: does it have the form? -/
def chk (PI : PgI) (fd : FD) (st : Stmt) : Bool := scB fd.N fd.ps (defScope st) && (mtS PI fd.own fd.body).l ⟨fd.N, defScope st, true⟩ (defBody st)
theorem fn_fact {PI : PgI} {K : Fg} {h : Heap} {mg : Str → Option Value} {fa : List He.Fa} {fn : List He.DefD} {fd : FD} {st : Stmt} (X : K.In h) (N : h.Ns mainGlobals mg) (c : He.SaysD fa fn K) (i : Nat) (hi : fn[i]? = some (defOf fd.name st)) (hg : He.Fa.glo fd.name ∈ fa) (ck : chk PI fd st = true)
    (hb : ∀ (kV doc pm : Value) (an : Option Addr) (cdv ct : Value) (us : List Value), us.length = fd.ps.length → bindArgs (PySem.W.fnOf fd.name fd.name (defArgs st) (defBody st) (defScope st) .none kV doc pm an cdv ct) ⟨us, []⟩ = pure (fd.ps.zip us)) : FnFact PI K mg fd := by
  obtain ⟨fdt, F⟩ := c.def_ i hi
  have F : FunD K fd.name fd.name (defArgs st) (defBody st) (defScope st) [] [] (He.fAd K (fd.name, none)) fdt := F
  obtain ⟨j, hj⟩ := List.mem_iff_getElem?.mp hg
  unfold chk at ck
  rw [Bool.and_eq_true] at ck
  exact ⟨⟨_, fdt, _, _, _, F, He.glo_ok X N (c.fact j hj), scB_ok ck.1, ck.2, F.bindsN hb⟩⟩
theorem blt_of {K : Fg} {h : Heap} {mg : Str → Option Value} {fa : List He.Fa} {fn : List He.DefD} (X : K.In h) (N : h.Ns mainGlobals mg) (c : He.SaysD fa fn K) (hf : ∀ x ∈ bltNames, He.Fa.free x ∈ fa) : ∀ x ∈ bltNames, mg x = none := fun x hx => by
  obtain ⟨j, hj⟩ := List.mem_iff_getElem?.mp (hf x hx)
  exact He.free_ok X N (c.fact j hj)
theorem gl_int {K : Fg} {h : Heap} {mg : Str → Option Value} {fa : List He.Fa} {fn : List He.DefD} (X : K.In h) (N : h.Ns mainGlobals mg) (c : He.SaysD fa fn K) {x : Str} {i : Int} (hf : He.Fa.int x i ∈ fa) : ∃ u v, mg x = some u ∧ RelV v u ∧ ∀ G', RD K G' (.int i) v := by
  obtain ⟨j, hj⟩ := List.mem_iff_getElem?.mp hf
  obtain ⟨t, e⟩ := He.int_ok X N (c.fact j hj)
  exact ⟨_, .int i, e, ⟨t, rfl⟩, fun _ => .int i⟩
theorem gl_str {K : Fg} {h : Heap} {mg : Str → Option Value} {fa : List He.Fa} {fn : List He.DefD} (X : K.In h) (N : h.Ns mainGlobals mg) (c : He.SaysD fa fn K) {x z : Str} (hf : He.Fa.str x z ∈ fa) : ∃ u v, mg x = some u ∧ RelV v u ∧ ∀ G', RD K G' (.str z) v := by
  obtain ⟨j, hj⟩ := List.mem_iff_getElem?.mp hf
  obtain ⟨t, e⟩ := He.str_ok X N (c.fact j hj)
  exact ⟨_, .str z, e, ⟨t, rfl⟩, fun _ => .str z⟩
/-- the law by what its form gives -/
theorem walk_T {l : PySem.W.OpenLaw} {n k : Nat} {q : Program} {loose : List Str} {XP : (Str → Option Value) → Heap → Prop} {YP : World → Heap → Prop} {d : DefRec} {CX : CXT} {x : Str}
    (hn : l.most = some n) (hn2 : n ≤ sizeLine) (hdf : d.params.defaults = []) (hr : Room k callerA)
    (F : ∀ (w : World) (mg : Str → Option Value) (fa : Addr) (h : Heap), YP w h → h.Ns mainGlobals mg → mg d.name = some (.ref fa) →
      ∃ (K : PySem.W.Frag) (fd : FuncData) (sp : Sp), K.In h ∧ (∀ (s : Shared) (u : Value), BindsTo s fd ⟨[u], []⟩ [(x, u)]) ∧
        (∀ (H : Hp) (a : Addr) (ns : List Int), ns.length ≤ n → LsK K H a (ns.map V.int) → sp [.ref a] H (fun v _ => v = .bl true) fun _ _ _ => False) ∧
        ∀ base : Heap, K.In base → base.Ns mainGlobals mg → FnOk l.prog w K mg base CX k fa fd [x] sp)
    (hCX : ∀ (H : Hp) (s : Shared) (e : Value) (s' : Shared), CX [] H s (fun _ _ _ => False) e s' → False) :
    PySem.W.WalkO q loose XP YP l.row.toRowW d [] (fun f vs => PySem.call f vs) := by
  refine Att.attach_call hn hdf fun w s₀ s₁ mg mb fa o pm cd doc a vs ns G Y ho hd hcd hmg hobj hints hlen hg => ?_
  obtain ⟨K, fd, sp, KX, hb, hsp, hF⟩ := F w mg fa _ Y G.T.g hmg
  refine law_call KX G.T.g G.T.b G.T.builtins G.T.nolimit hg hobj hints (Nat.le_trans hlen hn2) hr hF hb (fun H hO hS => hsp H a ns hlen ?_) fun H e s' => hCX H s₁ e s'
  rcases hS with h | ⟨o', its, m, e1, e2, e3, e4, e5, e6⟩
  · exact .inl h
  · have e7 := KX a o' e1
    rw [hobj] at e7
    cases e7
    cases e4
    exact .inr ⟨vs, _, e1, by simpa using Nat.le_trans hlen hn2, by simpa using e6⟩
/-- the script as data -/
theorem rd_script {K : Fg} {H : Hp} {a : Addr} {ns : List Int} (h : LsK K H a (ns.map V.int)) : RD K H (.list (ns.map .int)) (.ref a) := by
  refine .lst h ?_
  clear h
  induction ns with
  | nil => exact .nil
  | cons n ns ih => exact .cons (.int n) ih
/-- the law is kept, if its form gives True at every script -/
theorem law_sp {K : Fg} {T : ExcT} {H : Hp} {a : Addr} {ns : List Int} {f : List D → FRes} (h : LsK K H a (ns.map V.int)) (hf : ∃ out, f [.list (ns.map .int)] = .ok (.bool true) out) :
    (∀ c d H', ¬ (fun (_ : Value) (_ : Option Addr) (_ : Hp) => False) c d H') ∧ spOf T K none false f [.ref a] H (fun v _ => v = .bl true) fun _ _ _ => False := by
  refine ⟨fun _ _ _ z => z, H, [.list (ns.map .int)], LeG.refl, .cons (rd_script h) .nil, ?_⟩
  obtain ⟨out, e⟩ := hf
  rw [e]
  intro v G' H' _ _ r
  rw [if_neg (by simp)] at r
  cases r
  rfl
end Tp
/-! Pl1: the evaluator by simp: arguments first, what comes after is not looked into. -/
namespace Tp
open PySem
/-! ### results -/
def rb {α β : Type} (r : Res α) (k : α → Env → Res β) : Res β := match r with | .ok a e => k a e | .exc c x e => .exc c x e | .stuck => .stuck
@[simp] theorem rb_ok {α β : Type} (a : α) (e : Env) (k : α → Env → Res β) : rb (.ok a e) k = k a e := id rfl
@[simp] theorem rb_stuck {α β : Type} (k : α → Env → Res β) : rb (.stuck : Res α) k = .stuck := id rfl
theorem rb_congr {α β : Type} {r r' : Res α} {k : α → Env → Res β} (h : r = r') : rb r k = rb r' k := by rw [h]
@[simp] theorem bind_ap {α β : Type} (m : M α) (k : α → M β) (e : Env) : M.bind m k e = rb (m e) fun a e' => k a e' := by
  unfold M.bind rb
  cases m e <;> rfl
def rs {α : Type} (r : Res α) (k : α → Env → Out) : Out := match r with | .ok a e => k a e | .exc c x e => .exc c x e | .stuck => .stuck
@[simp] theorem rs_ok {α : Type} (a : α) (e : Env) (k : α → Env → Out) : rs (.ok a e) k = k a e := id rfl
@[simp] theorem rs_stuck {α : Type} (k : α → Env → Out) : rs (.stuck : Res α) k = .stuck := id rfl
theorem rs_congr {α : Type} {r r' : Res α} {k : α → Env → Out} (h : r = r') : rs r k = rs r' k := by rw [h]
@[simp] theorem onV_ap (m : M D) (k : D → SM) (e : Env) : onV m k e = rs (m e) fun a e' => k a e' := by
  unfold onV rs
  cases m e <;> rfl
@[simp] theorem onB_ap (m : M Bool) (k : Bool → SM) (e : Env) : onB m k e = rs (m e) fun a e' => k a e' := by
  unfold onB rs
  cases m e <;> rfl
@[simp] theorem onS_ap (m : M Src) (k : Src → SM) (e : Env) : onS m k e = rs (m e) fun a e' => k a e' := by
  unfold onS rs
  cases m e <;> rfl
def rq (o : Out) (b : SM) : Out := match o with | .nx e => b e | o => o
@[simp] theorem rq_nx (e : Env) (b : SM) : rq (.nx e) b = b e := id rfl
@[simp] theorem rq_rt (d : D) (e : Env) (b : SM) : rq (.rt d e) b = .rt d e := id rfl
@[simp] theorem rq_bk (e : Env) (b : SM) : rq (.bk e) b = .bk e := id rfl
@[simp] theorem rq_ct (e : Env) (b : SM) : rq (.ct e) b = .ct e := id rfl
@[simp] theorem rq_stuck (b : SM) : rq .stuck b = .stuck := id rfl
theorem rq_congr {o o' : Out} {b : SM} (h : o = o') : rq o b = rq o' b := by rw [h]
@[simp] theorem seqM_ap (a b : SM) (e : Env) : seqM a b e = rq (a e) b := by
  unfold seqM rq
  cases a e <;> rfl
@[simp] theorem nextM_ap (e : Env) : nextM e = .nx e := id rfl
@[simp] theorem ite_ap {α : Type} (c : Prop) [Decidable c] (a b : M α) (e : Env) : (if c then a else b) e = if c then a e else b e := by split <;> rfl
@[simp] theorem iteS_ap (c : Prop) [Decidable c] (a b : SM) (e : Env) : (if c then a else b) e = if c then a e else b e := by split <;> rfl
/-- a comprehension by its name -/
def lcE (P : PgI) (cf : Nat → List D → FRes) (i : IE) : M D := (den P cf i).e
/-! ### atoms -/
section
variable (e : Env) (i : Nat)
@[simp] theorem mVar_ap : mVar i e = match e[i]? with | some (.val d) => .ok d e | _ => .stuck := id rfl
@[simp] theorem mVarO_ap : mVarO i e = match e[i]? with | some (.val d) => .ok (.inl d) e | some (.own _) => .ok (.inr i) e | some (.io _) => .ok (.inr i) e | _ => .stuck := id rfl
@[simp] theorem mFrz_ap : mFrz i e = match e[i]? with | some (.val d) => .ok d e | some (.own d) => .ok d (e.set i (.val d)) | _ => .stuck := id rfl
@[simp] theorem asB_ap (b : Bool) : asB (.bool b) e = .ok b e := id rfl
@[simp] theorem asI_ap (j : Int) : asI (.int j) e = .ok (some j) e := id rfl
@[simp] theorem resolve_inl (d : D) : resolve (.inl d) e = some d := id rfl
@[simp] theorem resolve_inr : resolve (.inr i) e = e[i]?.bind Slot.mine? := id rfl
@[simp] theorem mine_own (d : D) : Slot.mine? (.own d) = some d := id rfl
@[simp] theorem mine_io (d : D) : Slot.mine? (.io d) = some d := id rfl
@[simp] theorem mine_val (d : D) : Slot.mine? (.val d) = none := id rfl
@[simp] theorem mine_no : Slot.mine? .no = none := id rfl
@[simp] theorem resolves_nil : resolves [] e = some [] := id rfl
@[simp] theorem resolves_cons (o : Opd) (os : List Opd) : resolves (o :: os) e = (resolve o e).bind fun d => (resolves os e).map fun ds => d :: ds := id rfl
@[simp] theorem plains_nil : plains [] = some [] := id rfl
@[simp] theorem plains_inl (d : D) (os : List Opd) : plains (.inl d :: os) = (plains os).map (d :: ·) := id rfl
@[simp] theorem plains_inr (os : List Opd) : plains (.inr i :: os) = none := id rfl
def okO (o : Option D) (e : Env) : Res D := match o with | some d => .ok d e | none => .stuck
@[simp] theorem okO_some (d : D) : okO (some d) e = .ok d e := id rfl
@[simp] theorem okO_none : okO none e = .stuck := id rfl
@[simp] theorem doOp1_ap (f : D → Option D) (o : Opd) : doOp1 f o e = okO ((resolve o e).bind f) e := id rfl
@[simp] theorem doOp2_ap (f : D → D → Option D) (o1 o2 : Opd) : doOp2 f o1 o2 e = okO ((resolve o1 e).bind fun d1 => (resolve o2 e).bind fun d2 => f d1 d2) e := id rfl
@[simp] theorem doOpN_ap (f : List D → Option D) (os : List Opd) : doOpN f os e = okO ((resolves os e).bind f) e := id rfl
@[simp] theorem doSlc_ap (o : Opd) (lo hi : Option Int) : doSlc o lo hi e = okO ((resolve o e).bind fun d => slcD d lo hi) e := id rfl
@[simp] theorem isi1_ap (t : Ty5) (o : Opd) : isi1 t o e = okO ((resolve o e).bind fun d => (isiD d t).map .bool) e := id rfl
@[simp] theorem mkTup_ap (os : List Opd) : mkTup os e = match plains os with | some ds => if ds.length ≤ sizeLine then .ok (.tuple ds) e else .stuck | none => .stuck := id rfl
@[simp] theorem mkLst_ap (os : List Opd) : mkLst os e = match plains os with | some ds => if ds.length ≤ sizeLine then .ok (.list ds) e else .stuck | none => .stuck := id rfl
end
/-! ### comprehensions, loops -/
theorem lcM_ok {mi : M Src} {t : Tgt} {own : List Nat} {mc : M Bool} {me : M D} {e e1 e2 eF : Env} {p : Src} {ds : List D} (h1 : mi e = .ok p e1) (h2 : p.1.length ≤ sizeLine) (h3 : srcOk p own = true) (h4 : wipeE e1 own = some e2) (h5 : lcLoop t own mc me p.1 e2 = some (ds, eF)) :
    lcM mi t own mc me e = .ok (.list ds) (backE e1 eF own) := by
  unfold lcM M.bind
  rw [h1]
  simp only [h2, h3, and_self, if_true, h4, Option.bind_some, h5]
/-- each element by itself, the state comes back -/
theorem lc_map {t : Tgt} {own : List Nat} {mc : M Bool} {me : M D} {f : D → D} : ∀ {ds : List D} {e : Env}, (∀ d ∈ ds, ∃ e3 e5, t.bind d e = some e3 ∧ mc e3 = .ok true e3 ∧ me e3 = .ok (f d) e5 ∧ wipeE e5 own = some e) → lcLoop t own mc me ds e = some (ds.map f, e)
  | [], e, h => rfl
  | d :: ds, e, h => by
    obtain ⟨e3, e5, h1, h2, h3, h4⟩ := h d List.mem_cons_self
    unfold lcLoop
    simp only [h1, h2, h3, h4, Option.bind_some, lc_map (fun x hx => h x (List.mem_cons_of_mem _ hx)), Option.map_some, List.map_cons]
theorem lc_filter {t : Tgt} {own : List Nat} {mc : M Bool} {me : M D} {f : D → D} {p : D → Bool} : ∀ {ds : List D} {e : Env}, (∀ d ∈ ds, ∃ e3 e5, t.bind d e = some e3 ∧ mc e3 = .ok (p d) e3 ∧ (p d = true → me e3 = .ok (f d) e5) ∧ (p d = false → e5 = e3) ∧ wipeE e5 own = some e) → lcLoop t own mc me ds e = some ((ds.filter p).map f, e)
  | [], e, h => rfl
  | d :: ds, e, h => by
    obtain ⟨e3, e5, h1, h2, h3, h5, h4⟩ := h d List.mem_cons_self
    unfold lcLoop
    cases hp : p d with
    | true => simp only [h1, h2, hp, h3 hp, h4, Option.bind_some, lc_filter (fun x hx => h x (List.mem_cons_of_mem _ hx)), Option.map_some, List.map_cons, List.filter_cons, if_true]
    | false =>
      have := h5 hp
      subst this
      simp only [h1, h2, hp, h4, Option.bind_some, lc_filter (fun x hx => h x (List.mem_cons_of_mem _ hx)), List.filter_cons]
      rfl
/-- elements that change the state: an invariant by the number done -/
theorem lc_inv {t : Tgt} {own : List Nat} {mc : M Bool} {me : M D} {I : Nat → Env → Prop} {R : Nat → D → Prop} : ∀ {ds : List D} {n : Nat} {e : Env}, I n e → (∀ i d e, ds[i]? = some d → I (n + i) e → ∃ e3 e4 v e5 e6, t.bind d e = some e3 ∧ mc e3 = .ok true e4 ∧ me e4 = .ok v e5 ∧ wipeE e5 own = some e6 ∧ R (n + i) v ∧ I (n + i + 1) e6) →
    ∃ vs eF, lcLoop t own mc me ds e = some (vs, eF) ∧ I (n + ds.length) eF ∧ vs.length = ds.length ∧ ∀ i v, vs[i]? = some v → R (n + i) v
  | [], n, e, h0, h => ⟨[], e, rfl, h0, rfl, fun i v q => by cases q⟩
  | d :: ds, n, e, h0, h => by
    obtain ⟨e3, e4, v, e5, e6, h1, h2, h3, h4, h5, h6⟩ := h 0 d e rfl h0
    obtain ⟨vs, eF, k1, k2, k3, k4⟩ := lc_inv (ds := ds) (n := n + 1) (e := e6) h6 fun i x ex hx hi => by
      have := h (i + 1) x ex (by simpa using hx) (by rw [show n + (i + 1) = n + 1 + i by omega]; exact hi)
      rw [show n + (i + 1) = n + 1 + i by omega] at this
      exact this
    refine ⟨v :: vs, eF, ?_, by rw [List.length_cons, show n + (ds.length + 1) = n + 1 + ds.length by omega]; exact k2, by simp [k3], fun i w q => ?_⟩
    · unfold lcLoop
      simp only [h1, h2, h3, h4, Option.bind_some, k1, Option.map_some]
    · cases i with
      | zero =>
        cases q
        exact h5
      | succ i =>
        have := k4 i w (by simpa using q)
        rw [show n + (i + 1) = n + 1 + i by omega]
        exact this
theorem forM_val {mi : M Src} {t : Tgt} {mb : SM} {kill : List Nat} {e e1 : Env} {ds : List D} (h : mi e = .ok (ds, none) e1) : forM' mi t mb kill e = forLoop t mb kill ds e1 := by
  unfold forM' onS
  rw [h]
/-- a loop that never leaves early: an invariant by the number done -/
theorem for_inv {t : Tgt} {mb : SM} {kill : List Nat} {I : Nat → Env → Prop} : ∀ {ds : List D} {n : Nat} {e : Env}, I n e → (∀ i d e, ds[i]? = some d → I (n + i) e → ∃ e1 e2 e3, t.bind d e = some e1 ∧ (mb e1 = .nx e2 ∨ mb e1 = .ct e2) ∧ wipeE e2 kill = some e3 ∧ I (n + i + 1) e3) →
    ∃ eF, forLoop t mb kill ds e = .nx eF ∧ I (n + ds.length) eF
  | [], n, e, h0, h => ⟨e, rfl, h0⟩
  | d :: ds, n, e, h0, h => by
    obtain ⟨e1, e2, e3, h1, h2, h3, h4⟩ := h 0 d e rfl h0
    obtain ⟨eF, k1, k2⟩ := for_inv (ds := ds) (n := n + 1) (e := e3) h4 fun i x ex hx hi => by
      have := h (i + 1) x ex (by simpa using hx) (by rw [show n + (i + 1) = n + 1 + i by omega]; exact hi)
      rw [show n + (i + 1) = n + 1 + i by omega] at this
      exact this
    refine ⟨eF, ?_, by rw [List.length_cons, show n + (ds.length + 1) = n + 1 + ds.length by omega]; exact k2⟩
    unfold forLoop
    rcases h2 with h2 | h2 <;> simp only [h1, h2, h3, k1]
end Tp
namespace Tp
open PySem PySem.Spec PyProof.Rows L2
def f1_is_integer : FD := ⟨"is_integer", ["value"], ["value"], none, false,
  (.cons (.ret (.and_ (.cons (.isi1 .int (.var 0)) (.cons (.not_ (.isi1 .bool (.var 0))) .nil)))) .nil)⟩
def f15_is_natural : FD := ⟨"is_natural", ["value"], ["value"], none, false,
  (.cons (.ret (.and_ (.cons (.call 1 (.cons (.var 0) .nil)) (.cons (.chain .le .le (.lit (.int 0)) (.var 0) (.glob "GREATEST")) .nil)))) .nil)⟩
def f16_check_natural : FD := ⟨"check_natural", ["value"], ["value"], none, false,
  (.cons (.ite (.not_ (.call 15 (.cons (.var 0) .nil))) (.cons .never .nil) .nil) .nil)⟩
def f118_is_within : FD := ⟨"is_within", ["value", "least", "most"], ["value", "least", "most"], none, false,
  (.cons (.ret (.and_ (.cons (.call 1 (.cons (.var 0) .nil)) (.cons (.chain .le .le (.var 1) (.var 0) (.var 2)) .nil)))) .nil)⟩
def f119_are_tiers_l1 : IS := .for_ (.one 2) (.var 0) (.cons (.ite (.or_ (.cons (.not_ (.isi1 .tuple (.var 2))) (.cons (.cmp .ne (.bi .len (.cons (.var 2) .nil)) (.lit (.int 2))) .nil))) (.cons (.ret (.lit (.bool false))) .nil) .nil) (.cons (.ite (.or_ (.cons (.not_ (.call 118 (.cons (.ix (.var 2) (.lit (.int 0))) (.cons (.bin .add (.var 1) (.lit (.int 1))) (.cons (.glob "MOST_AMOUNT") .nil))))) (.cons (.not_ (.call 118 (.cons (.ix (.var 2) (.lit (.int 1))) (.cons (.lit (.int 0)) (.cons (.lit (.int 100)) .nil))))) .nil))) (.cons (.ret (.lit (.bool false))) .nil) .nil) (.cons (.asg (.one 1) (.ix (.var 2) (.lit (.int 0)))) .nil))) [2]
def f119_are_tiers : FD := ⟨"are_tiers", ["value"], ["value", "last", "tier"], none, false,
  (.cons (.ite (.or_ (.cons (.not_ (.isi1 .tuple (.var 0))) (.cons (.not_ (.chain .le .le (.lit (.int 1)) (.bi .len (.cons (.var 0) .nil)) (.glob "MOST_TIERS"))) .nil))) (.cons (.ret (.lit (.bool false))) .nil) .nil) (.cons (.asg (.one 1) (.neg (.lit (.int 1)))) (.cons f119_are_tiers_l1 (.cons (.ret (.cmp .eq (.ix (.ix (.var 0) (.lit (.int 0))) (.lit (.int 0))) (.lit (.int 0)))) .nil))))⟩
def f120_is_plan : FD := ⟨"is_plan", ["value"], ["value"], none, false,
  (.cons (.ite (.or_ (.cons (.not_ (.isi1 .tuple (.var 0))) (.cons (.cmp .ne (.bi .len (.cons (.var 0) .nil)) (.lit (.int 3))) (.cons (.not_ (.isi1 .str (.ix (.var 0) (.lit (.int 0))))) .nil)))) (.cons (.ret (.lit (.bool false))) .nil) .nil) (.cons (.ite (.or_ (.cons (.cmp .notin (.ix (.var 0) (.lit (.int 0))) (.tup (.cons (.lit (.str "slices")) (.cons (.lit (.str "whole")) .nil)))) (.cons (.not_ (.call 119 (.cons (.ix (.var 0) (.lit (.int 1))) .nil))) .nil))) (.cons (.ret (.lit (.bool false))) .nil) .nil) (.cons (.ret (.or_ (.cons (.cmp .is_ (.ix (.var 0) (.lit (.int 2))) (.lit .none)) (.cons (.call 118 (.cons (.ix (.var 0) (.lit (.int 2))) (.cons (.lit (.int 0)) (.cons (.glob "MOST_AMOUNT") .nil)))) .nil)))) .nil)))⟩
def f121_check_plan : FD := ⟨"check_plan", ["value"], ["value"], none, false,
  (.cons (.ite (.not_ (.call 120 (.cons (.var 0) .nil))) (.cons .never .nil) .nil) .nil)⟩
def f145_rows_c1 : IE := .lc (.many [4, 5]) [4, 5] (.tup (.cons (.ix (.var 4) (.lit (.int 0))) (.cons (.bin .sub (.var 5) (.ix (.var 4) (.lit (.int 0)))) (.cons (.ix (.var 4) (.lit (.int 1))) .nil)))) (.zip2 (.cons (.var 2) (.cons (.var 3) .nil))) .nil
theorem d_f145_rows_c1 (P : PgI) (cf : Nat → List D → FRes) : den P cf f145_rows_c1 = Den.of (lcE P cf f145_rows_c1) := rfl
def f145_rows_c2 : IE := .lc (.one 4) [4] (.ix (.var 4) (.lit (.int 0))) (.slc (.var 2) (.lit (.int 1)) .nil) .nil
theorem d_f145_rows_c2 (P : PgI) (cf : Nat → List D → FRes) : den P cf f145_rows_c2 = Den.of (lcE P cf f145_rows_c2) := rfl
def f145_rows_c3 : IE := .lc (.one 4) [4] (.var 4) (.ix (.var 0) (.lit (.int 1))) (.or_ (.cons (.cmp .lt (.ix (.var 4) (.lit (.int 0))) (.var 1)) (.cons (.and_ (.cons (.cmp .eq (.ix (.var 0) (.lit (.int 0))) (.lit (.str "whole"))) (.cons (.cmp .eq (.ix (.var 4) (.lit (.int 0))) (.var 1)) .nil))) .nil)))
theorem d_f145_rows_c3 (P : PgI) (cf : Nat → List D → FRes) : den P cf f145_rows_c3 = Den.of (lcE P cf f145_rows_c3) := rfl
def f145_rows : FD := ⟨"rows", ["plan", "x"], ["plan", "x", "tiers", "ends", "tier", "end"], none, true,
  (.cons (.expr (.call 121 (.cons (.var 0) .nil))) (.cons (.expr (.call 16 (.cons (.var 1) .nil))) (.cons (.ite (.cmp .eq (.var 1) (.lit (.int 0))) (.cons (.ret (.lst .nil)) .nil) .nil) (.cons (.asg (.one 2) f145_rows_c3) (.cons (.ite (.cmp .eq (.ix (.var 0) (.lit (.int 0))) (.lit (.str "whole"))) (.cons (.ret (.lst (.cons (.tup (.cons (.ix (.ix (.var 2) (.neg (.lit (.int 1)))) (.lit (.int 0))) (.cons (.var 1) (.cons (.ix (.ix (.var 2) (.neg (.lit (.int 1)))) (.lit (.int 1))) .nil)))) .nil))) .nil) .nil) (.cons (.asg (.one 3) (.bin .add f145_rows_c2 (.lst (.cons (.var 1) .nil)))) (.cons (.ret f145_rows_c1) .nil)))))))⟩
def f4_law_source : FD := ⟨"_law_source", ["cell", "turn"], ["cell", "turn"], none, true,
  (.cons (.ite (.cmp .ge (.var 0) (.bin .pow (.lit (.int 10)) (.lit (.int 18)))) (.cons (.ret (.lst (.cons (.bin .sub (.var 0) (.bin .pow (.lit (.int 10)) (.lit (.int 18)))) (.cons (.bin .mod (.bi .int (.cons (.var 0) .nil)) (.lit (.int 2147483579))) (.cons (.var 1) .nil))))) .nil) .nil) (.cons (.ret (.lst (.cons (.lit (.int 0)) (.cons (.bin .mod (.bi .int (.cons (.var 0) .nil)) (.lit (.int 2147483579))) (.cons (.var 1) .nil))))) .nil))⟩
def f5_law_draw : FD := ⟨"_law_draw", ["source", "size"], ["source", "size", "drawn", "number"], some 0, false,
  (.cons (.ite (.cmp .gt (.ix (.var 0) (.lit (.int 0))) (.lit (.int 1))) (.cons (.asg (.one 2) (.bin .mod (.bi .int (.cons (.ix (.var 0) (.lit (.int 0))) .nil)) (.var 1))) (.cons (.set 0 (.lit (.int 0)) (.bin .div (.ix (.var 0) (.lit (.int 0))) (.var 1))) (.cons (.ret (.var 2)) .nil))) .nil) (.cons (.set 0 (.lit (.int 2)) (.bin .add (.ix (.var 0) (.lit (.int 2))) (.lit (.int 1)))) (.cons (.asg (.one 3) (.bin .mod (.bi .int (.cons (.bin .pow (.bin .add (.ix (.var 0) (.lit (.int 1))) (.bin .mul (.lit (.int 15485867)) (.ix (.var 0) (.lit (.int 2))))) (.lit (.int 5))) .nil)) (.lit (.int 2147483647)))) (.cons (.asg (.one 2) (.bin .div (.bin .mod (.bi .int (.cons (.bin .pow (.bin .add (.var 3) (.bin .mul (.lit (.int 7919)) (.ix (.var 0) (.lit (.int 2))))) (.lit (.int 3))) .nil)) (.lit (.int 2147483629))) (.lit (.int 32)))) (.cons (.ret (.bin .mod (.bi .int (.cons (.var 2) .nil)) (.var 1))) .nil)))))⟩
def f6_law_choice : FD := ⟨"_law_choice", ["source", "items"], ["source", "items"], some 0, false,
  (.cons (.ret (.ix (.var 1) (.call 5 (.cons (.var 0) (.cons (.bi .len (.cons (.var 1) .nil)) .nil))))) .nil)⟩
def f7_law_equal_c1 : IE := .lc (.one 2) [2] (.call 7 (.cons (.ix (.var 0) (.var 2)) (.cons (.ix (.var 1) (.var 2)) .nil))) (.rng (.cons (.bi .len (.cons (.var 1) .nil)) .nil)) .nil
theorem d_f7_law_equal_c1 (P : PgI) (cf : Nat → List D → FRes) : den P cf f7_law_equal_c1 = Den.of (lcE P cf f7_law_equal_c1) := rfl
def f7_law_equal : FD := ⟨"_law_equal", ["found", "meant"], ["found", "meant", "k"], none, false,
  (.cons (.ite (.or_ (.cons (.isi1 .bool (.var 1)) (.cons (.isi1 .bool (.var 0)) .nil))) (.cons (.ret (.and_ (.cons (.isi1 .bool (.var 1)) (.cons (.isi1 .bool (.var 0)) (.cons (.cmp .eq (.var 1) (.var 0)) .nil))))) .nil) .nil) (.cons (.ite (.or_ (.cons (.cmp .is_ (.var 1) (.lit .none)) (.cons (.cmp .is_ (.var 0) (.lit .none)) .nil))) (.cons (.ret (.and_ (.cons (.cmp .is_ (.var 1) (.lit .none)) (.cons (.cmp .is_ (.var 0) (.lit .none)) .nil)))) .nil) .nil) (.cons (.ite (.isi2 .list .tuple (.var 1)) (.cons (.ite (.or_ (.cons (.not_ (.isi2 .list .tuple (.var 0))) (.cons (.cmp .ne (.bi .len (.cons (.var 0) .nil)) (.bi .len (.cons (.var 1) .nil))) .nil))) (.cons (.ret (.lit (.bool false))) .nil) .nil) (.cons (.ite (.cmp .ne (.isi1 .list (.var 1)) (.isi1 .list (.var 0))) (.cons (.ret (.lit (.bool false))) .nil) .nil) (.cons (.ret (.bi .all (.cons f7_law_equal_c1 .nil))) .nil))) .nil) (.cons (.ite (.isi1 .str (.var 1)) (.cons (.ret (.and_ (.cons (.isi1 .str (.var 0)) (.cons (.cmp .eq (.var 0) (.var 1)) .nil)))) .nil) .nil) (.cons (.ret (.and_ (.cons (.isi1 .int (.var 0)) (.cons (.cmp .eq (.var 0) (.var 1)) .nil)))) .nil)))))⟩
def f124_law_tiers_l1 : IS := .for_ (.one 4) (.rng (.cons (.bin .add (.lit (.int 1)) (.call 5 (.cons (.var 0) (.cons (.lit (.int 5)) .nil)))) .nil)) (.cons (.app 1 (.tup (.cons (.var 2) (.cons (.call 6 (.cons (.var 0) (.cons (.lst (.cons (.lit (.int 0)) (.cons (.lit (.int 1)) (.cons (.lit (.int 5)) (.cons (.lit (.int 10)) (.cons (.lit (.int 100)) (.cons (.call 5 (.cons (.var 0) (.cons (.lit (.int 101)) .nil))) .nil))))))) .nil))) .nil)))) (.cons (.asg (.one 2) (.bin .add (.bin .add (.var 2) (.lit (.int 1))) (.call 5 (.cons (.var 0) (.cons (.var 3) .nil))))) .nil)) [4]
def f124_law_tiers : FD := ⟨"_law_tiers", ["source"], ["source", "found", "start", "wide", "k"], some 0, false,
  (.cons (.par2 true false 1 2 (.lst .nil) (.lit (.int 0))) (.cons (.asg (.one 3) (.call 6 (.cons (.var 0) (.cons (.lst (.cons (.lit (.int 1)) (.cons (.lit (.int 5)) (.cons (.lit (.int 100)) (.cons (.bin .pow (.lit (.int 10)) (.lit (.int 4))) (.cons (.bin .pow (.lit (.int 10)) (.lit (.int 11))) .nil)))))) .nil)))) (.cons f124_law_tiers_l1 (.cons (.ret (.bi .tuple (.cons (.var 1) .nil))) .nil))))⟩
def f125_law_plan : FD := ⟨"_law_plan", ["source"], ["source", "kind", "cap"], some 0, false,
  (.cons (.asg (.one 1) (.call 6 (.cons (.var 0) (.cons (.lst (.cons (.lit (.str "slices")) (.cons (.lit (.str "whole")) .nil))) .nil)))) (.cons (.asg (.one 2) (.call 6 (.cons (.var 0) (.cons (.lst (.cons (.lit .none) (.cons (.lit .none) (.cons (.lit .none) (.cons (.call 5 (.cons (.var 0) (.cons (.lit (.int 100)) .nil))) (.cons (.call 5 (.cons (.var 0) (.cons (.bin .pow (.lit (.int 10)) (.lit (.int 6))) .nil))) (.cons (.lit (.int 0)) .nil))))))) .nil)))) (.cons (.ret (.tup (.cons (.var 1) (.cons (.call 124 (.cons (.var 0) .nil)) (.cons (.var 2) .nil))))) .nil)))⟩
def f141_law_hundredths_c1 : IE := .lc (.many [8, 9]) [8, 9] (.var 9) (.var 3) (.cmp .le (.var 8) (.var 1))
theorem d_f141_law_hundredths_c1 (P : PgI) (cf : Nat → List D → FRes) : den P cf f141_law_hundredths_c1 = Den.of (lcE P cf f141_law_hundredths_c1) := rfl
def f141_law_hundredths_l1 : IS := .for_ (.one 7) (.rng (.cons (.bi .len (.cons (.var 3) .nil)) .nil)) (.cons (.ite (.cmp .lt (.ix (.ix (.var 3) (.var 7)) (.lit (.int 0))) (.var 1)) (.cons (.asg (.one 5) (.bin .add (.var 5) (.bin .mul (.ix (.ix (.var 3) (.var 7)) (.lit (.int 1))) (.bin .sub (.bi .min (.cons (.ix (.var 6) (.var 7)) (.cons (.var 1) .nil))) (.ix (.ix (.var 3) (.var 7)) (.lit (.int 0))))))) .nil) .nil) .nil) [7]
def f141_law_hundredths_c2 : IE := .lc (.many [8, 9]) [8, 9] (.var 8) (.slc (.var 3) (.lit (.int 1)) .nil) .nil
theorem d_f141_law_hundredths_c2 (P : PgI) (cf : Nat → List D → FRes) : den P cf f141_law_hundredths_c2 = Den.of (lcE P cf f141_law_hundredths_c2) := rfl
def f141_law_hundredths : FD := ⟨"_law_hundredths", ["plan", "x"], ["plan", "x", "kind", "tiers", "cap", "total", "ends", "k", "start", "percent"], none, false,
  (.cons (.asg (.many [2, 3, 4]) (.var 0)) (.cons (.asg (.one 5) (.lit (.int 0))) (.cons (.ite (.cmp .eq (.var 2) (.lit (.str "whole"))) (.cons (.asg (.one 5) (.bin .mul (.var 1) (.ix f141_law_hundredths_c1 (.neg (.lit (.int 1)))))) .nil) (.cons (.asg (.one 6) (.bin .add f141_law_hundredths_c2 (.lst (.cons (.var 1) .nil)))) (.cons f141_law_hundredths_l1 .nil))) (.cons (.ret (.ifx (.cmp .is_ (.var 4) (.lit .none)) (.var 5) (.bi .min (.cons (.var 5) (.cons (.bin .mul (.lit (.int 100)) (.var 4)) .nil))))) .nil))))⟩
def f146_law_tier_rows_l1 : IS := .for_ (.one 7) (.rng (.cons (.bi .len (.cons (.var 3) .nil)) .nil)) (.cons (.asg (.one 8) (.ifx (.cmp .eq (.bin .add (.var 7) (.lit (.int 1))) (.bi .len (.cons (.var 3) .nil))) (.var 1) (.bi .min (.cons (.var 1) (.cons (.ix (.ix (.var 3) (.bin .add (.var 7) (.lit (.int 1)))) (.lit (.int 0))) .nil))))) (.cons (.ite (.cmp .gt (.var 8) (.ix (.ix (.var 3) (.var 7)) (.lit (.int 0)))) (.cons (.app 6 (.tup (.cons (.ix (.ix (.var 3) (.var 7)) (.lit (.int 0))) (.cons (.bin .sub (.var 8) (.ix (.ix (.var 3) (.var 7)) (.lit (.int 0)))) (.cons (.ix (.ix (.var 3) (.var 7)) (.lit (.int 1))) .nil))))) .nil) .nil) .nil)) [7, 8]
def f146_law_tier_rows_c1 : IE := .lc (.one 9) [9] (.var 9) (.var 3) (.cmp .le (.ix (.var 9) (.lit (.int 0))) (.var 1))
theorem d_f146_law_tier_rows_c1 (P : PgI) (cf : Nat → List D → FRes) : den P cf f146_law_tier_rows_c1 = Den.of (lcE P cf f146_law_tier_rows_c1) := rfl
def f146_law_tier_rows : FD := ⟨"_law_tier_rows", ["plan", "x"], ["plan", "x", "kind", "tiers", "cap", "last", "found", "k", "end", "tier"], none, false,
  (.cons (.asg (.many [2, 3, 4]) (.var 0)) (.cons (.ite (.cmp .eq (.var 1) (.lit (.int 0))) (.cons (.ret (.lst .nil)) .nil) .nil) (.cons (.ite (.cmp .eq (.var 2) (.lit (.str "whole"))) (.cons (.asg (.one 5) (.ix f146_law_tier_rows_c1 (.neg (.lit (.int 1))))) (.cons (.ret (.lst (.cons (.tup (.cons (.ix (.var 5) (.lit (.int 0))) (.cons (.var 1) (.cons (.ix (.var 5) (.lit (.int 1))) .nil)))) .nil))) .nil)) .nil) (.cons (.asgO 6 (.lst .nil)) (.cons f146_law_tier_rows_l1 (.cons (.ret (.frz 6)) .nil))))))⟩
def f147_law_c1 : IE := .lc (.one 12) [12] (.ix (.var 12) (.lit (.int 1))) (.slc (.var 7) .nil (.neg (.lit (.int 1)))) .nil
theorem d_f147_law_c1 (P : PgI) (cf : Nat → List D → FRes) : den P cf f147_law_c1 = Den.of (lcE P cf f147_law_c1) := rfl
def f147_law_c2 : IE := .lc (.many [9, 10, 11]) [9, 10, 11] (.bin .mul (.var 10) (.var 11)) (.slc (.var 7) .nil (.neg (.lit (.int 1)))) .nil
theorem d_f147_law_c2 (P : PgI) (cf : Nat → List D → FRes) : den P cf f147_law_c2 = Den.of (lcE P cf f147_law_c2) := rfl
def f147_law_l1 : IS := .for_ (.one 6) (.rng (.cons (.lit (.int 2)) .nil)) (.cons (.asgO 7 (.call 145 (.cons (.var 3) (.cons (.var 5) .nil)))) (.cons (.ite (.not_ (.look 7 (.cons (.var 7) (.cons (.call 146 (.cons (.var 3) (.cons (.var 5) .nil))) .nil)))) (.cons (.ret (.lit (.bool false))) .nil) .nil) (.cons (.app 7 (.lit (.int 0))) .nil))) [6]
def f147_law_l2 : IS := .for_ (.one 4) (.rng (.cons (.lit (.int 6)) .nil)) (.cons (.asg (.one 5) (.bin .add (.ix (.call 6 (.cons (.var 2) (.cons (.ix (.var 3) (.lit (.int 1))) .nil))) (.lit (.int 0))) (.call 6 (.cons (.var 2) (.cons (.lst (.cons (.lit (.int 0)) (.cons (.lit (.int 1)) (.cons (.lit (.int 2)) (.cons (.call 5 (.cons (.var 2) (.cons (.bin .pow (.lit (.int 10)) (.lit (.int 6))) .nil))) .nil))))) .nil))))) (.cons f147_law_l1 (.cons (.asg (.one 8) (.bi .sum (.cons f147_law_c2 .nil))) (.cons (.ite (.or_ (.cons (.cmp .ne (.var 8) (.call 141 (.cons (.tup (.cons (.ix (.var 3) (.lit (.int 0))) (.cons (.ix (.var 3) (.lit (.int 1))) (.cons (.lit .none) .nil)))) (.cons (.var 5) .nil)))) (.cons (.cmp .ne (.bi .sum (.cons f147_law_c1 .nil)) (.var 5)) .nil))) (.cons (.ret (.lit (.bool false))) .nil) .nil) .nil)))) [4, 5, 6, 8]
def f147_law_l3 : IS := .for_ (.one 1) (.slc (.bin .add (.lst (.cons (.lit (.int 0)) .nil)) (.var 0)) .nil (.lit (.int 15))) (.cons (.asgO 2 (.call 4 (.cons (.var 1) (.cons (.lit (.int 16)) .nil)))) (.cons (.asg (.one 3) (.call 125 (.cons (.var 2) .nil))) (.cons f147_law_l2 .nil))) [1, 2, 3, 4, 5, 6, 8]
def f147_law : FD := ⟨"law", ["script"], ["script", "cell", "source", "plan", "turn", "x", "again", "found", "whole", "start", "part", "percent", "row"], none, false,
  (.cons f147_law_l3 (.cons (.ret (.lit (.bool true))) .nil))⟩
end Tp
/-! Pl2: draws. -/
namespace Tp
open PySem
theorem run_at {H : PG} {n g : Nat} {fd : FD} (h : H.fns.lookup g = some fd) (ds : List D) : run H (n+1) g ds = runB H.I (run H n) fd ds := by simp only [run, h]
theorem I_fn {H : PG} {g : Nat} {fd : FD} (h : H.fns.lookup g = some fd) : H.I.fn g = some ⟨fd.name, fd.io, fd.own⟩ := by
  show (H.fns.lookup g).map _ = _
  rw [h]
  rfl
def srcD (a m k : Int) : D := .list [.int a, .int m, .int k]
/-- a source that has drawn at most t times -/
def Sor (t : Nat) (s : D) : Prop := ∃ a m k : Int, s = srcD a m k ∧ 0 ≤ a ∧ 0 ≤ m ∧ m < 2147483579 ∧ 0 ≤ k ∧ k ≤ t
theorem Sor.mono {t u : Nat} {s : D} (h : Sor t s) (l : t ≤ u) : Sor u s := by
  obtain ⟨a, m, k, e, h1, h2, h3, h4, h5⟩ := h
  exact ⟨a, m, k, e, h1, h2, h3, h4, by omega⟩
theorem sm_of {i : Int} (h : i.natAbs < 2 ^ 1000) : sm i = true := decide_eq_true h
theorem sm_64 {i : Int} (h1 : -2 ^ 64 ≤ i) (h2 : i ≤ 2 ^ 64) : sm i = true := by
  have h3 : i.natAbs ≤ 2 ^ 64 := by omega
  exact sm_of (Nat.lt_of_le_of_lt h3 (by decide))
theorem size_small {n : Nat} (h : n ≤ 1000) : (n ≤ sizeLine) = True := eq_true (Nat.le_trans h (by decide))
theorem size_small' {n : Nat} (h : n ≤ 999) : (n < sizeLine) = True := eq_true (Nat.lt_of_le_of_lt h (by decide))
theorem fmod_pos {a b : Int} (h : 0 < b) : 0 ≤ a.fmod b ∧ a.fmod b < b := ⟨Int.fmod_nonneg_of_pos a h, Int.fmod_lt_of_pos a h⟩
theorem fdiv_nn {a b : Int} (h : 0 ≤ a) (hb : 0 < b) : 0 ≤ a.fdiv b := by
  rw [Int.fdiv_eq_ediv_of_nonneg _ (Int.le_of_lt hb)]
  exact Int.ediv_nonneg h (Int.le_of_lt hb)
theorem source_run {H : PG} {n t : Nat} (h : H.fns.lookup 4 = some f4_law_source) (c : Int) : ∃ s, run H (n+1) 4 [.int c, .int t] = .ok s .none ∧ Sor t s := by
  have hm := fmod_pos (a := c) (b := 2147483579) (by decide)
  rw [run_at h]
  by_cases hc : 10 ^ 18 ≤ c
  · refine ⟨srcD (c - 10 ^ 18) (c.fmod 2147483579) t, ?_, _, _, _, rfl, by omega, hm.1, hm.2, by omega, by omega⟩
    have hc' : (1000000000000000000 : Int) ≤ c := hc
    simp [runB, denS, den, Den.of, Den.b, initE, initN, initV, BOp.f, COp.f, Bi.f, ixD, L2.atI, cmpI, intD, modD, divD, mulI, addD, subD, powD, negD, setM, changeM, setD, L2.ixN, putMine, liftE, Tgt.bind, bindAll, setV, setO, endB, outE, callM, callS, argD, argN, ioSlot, lenD, tupleD, listD, absD, isiD, isi2, isiAny, Tp.par2, putVO, augM, augF, appM, appD, wipeE, rngA, arity, asSrc, isNil, M.stuck, isND, notND, slcB, List.lookup, size_small, size_small', f4_law_source, hc', srcD]
  · refine ⟨srcD 0 (c.fmod 2147483579) t, ?_, _, _, _, rfl, by omega, hm.1, hm.2, by omega, by omega⟩
    have hc' : ¬ (1000000000000000000 : Int) ≤ c := hc
    simp [runB, denS, den, Den.of, Den.b, initE, initN, initV, BOp.f, COp.f, Bi.f, ixD, L2.atI, cmpI, intD, modD, divD, mulI, addD, subD, powD, negD, setM, changeM, setD, L2.ixN, putMine, liftE, Tgt.bind, bindAll, setV, setO, endB, outE, callM, callS, argD, argN, ioSlot, lenD, tupleD, listD, absD, isiD, isi2, isiAny, Tp.par2, putVO, augM, augF, appM, appD, wipeE, rngA, arity, asSrc, isNil, M.stuck, isND, notND, slcB, List.lookup, size_small, size_small', f4_law_source, hc', srcD]
theorem draw_run {H : PG} {n t : Nat} (h : H.fns.lookup 5 = some f5_law_draw) {s : D} (hs : Sor t s) (ht : t < 2 ^ 20) {size : Int} (h1 : 1 ≤ size) (h2 : sm size = true) :
    ∃ d s', run H (n+1) 5 [s, .int size] = .ok (.int d) s' ∧ 0 ≤ d ∧ d < size ∧ Sor (t+1) s' := by
  obtain ⟨a, m, k, rfl, ha, hm, hm2, hk, hk2⟩ := hs
  have hz : size ≠ 0 := by omega
  rw [run_at h]
  by_cases hb : 1 < a
  · refine ⟨a.fmod size, srcD (a.fdiv size) m k, ?_, (fmod_pos (by omega)).1, (fmod_pos (by omega)).2, _, _, _, rfl, fdiv_nn ha (by omega), hm, hm2, hk, by omega⟩
    simp [runB, denS, den, Den.of, Den.b, initE, initN, initV, BOp.f, COp.f, Bi.f, ixD, L2.atI, cmpI, intD, modD, divD, mulI, addD, subD, powD, negD, setM, changeM, setD, L2.ixN, putMine, liftE, Tgt.bind, bindAll, setV, setO, endB, outE, callM, callS, argD, argN, ioSlot, lenD, tupleD, listD, absD, isiD, isi2, isiAny, Tp.par2, putVO, augM, augF, appM, appD, wipeE, rngA, arity, asSrc, isNil, M.stuck, isND, notND, slcB, List.lookup, size_small, size_small', f5_law_draw, hb, srcD, hz, h2]
  · let k' := k + 1
    let nb := ((m + 15485867 * k') ^ 5).fmod 2147483647
    let dr := (((nb + 7919 * k') ^ 3).fmod 2147483629).fdiv 32
    refine ⟨dr.fmod size, srcD a m k', ?_, (fmod_pos (by omega)).1, (fmod_pos (by omega)).2, _, _, _, rfl, ha, hm, hm2, by omega, by omega⟩
    have hnb := fmod_pos (a := (m + 15485867 * k') ^ 5) (b := 2147483647) (by decide)
    have e1 : sm (k + 1) = true := sm_64 (by omega) (by omega)
    have e2 : (m + 15485867 * (k + 1)).natAbs < 2 ^ 64 := by omega
    have e3 : (((m + 15485867 * (k + 1)) ^ 5).fmod 2147483647 + 7919 * (k + 1)).natAbs < 2 ^ 64 := by
      have : k' = k + 1 := rfl
      rw [this] at hnb
      omega
    have e4 : sm 15485867 = true := by decide
    have e5 : sm 7919 = true := by decide
    have e6 : sm 32 = true := by decide
    simp [runB, denS, den, Den.of, Den.b, initE, initN, initV, BOp.f, COp.f, Bi.f, ixD, L2.atI, cmpI, intD, modD, divD, mulI, addD, subD, powD, negD, setM, changeM, setD, L2.ixN, putMine, liftE, Tgt.bind, bindAll, setV, setO, endB, outE, callM, callS, argD, argN, ioSlot, lenD, tupleD, listD, absD, isiD, isi2, isiAny, Tp.par2, putVO, augM, augF, appM, appD, wipeE, rngA, arity, asSrc, isNil, M.stuck, isND, notND, slcB, List.lookup, size_small, size_small', f5_law_draw, hb, srcD, hz, e1, e2, e3, e4, e5, e6, dr, nb, k']
    done
theorem choice_run {H : PG} {n t : Nat} (h5 : H.fns.lookup 5 = some f5_law_draw) (h6 : H.fns.lookup 6 = some f6_law_choice) {s : D} (hs : Sor t s) (ht : t < 2 ^ 20) {xs : List D} (h1 : xs ≠ []) (h2 : xs.length ≤ sizeLine) :
    ∃ x s', run H (n+2) 6 [s, .list xs] = .ok x s' ∧ x ∈ xs ∧ Sor (t+1) s' := by
  have hl : 1 ≤ xs.length := List.length_pos_iff.mpr h1
  have hz : sizeLine ≤ 2 ^ 62 := by decide
  obtain ⟨d, s', e, d1, d2, hs'⟩ := draw_run (n := n) h5 hs ht (size := (xs.length : Int)) (by omega) (sm_64 (by omega) (by omega))
  have hd : d.toNat < xs.length := by omega
  refine ⟨xs[d.toNat], s', ?_, List.getElem_mem hd, hs'⟩
  rw [run_at h6]
  have hn : ¬ d < 0 := by omega
  simp [runB, denS, den, Den.of, Den.b, initE, initN, initV, BOp.f, COp.f, Bi.f, ixD, L2.atI, cmpI, intD, modD, divD, mulI, addD, subD, powD, negD, setM, changeM, setD, L2.ixN, putMine, liftE, Tgt.bind, bindAll, setV, setO, endB, outE, callM, callS, argD, argN, ioSlot, lenD, tupleD, listD, absD, isiD, isi2, isiAny, Tp.par2, putVO, augM, augF, appM, appD, wipeE, rngA, arity, asSrc, isNil, M.stuck, isND, notND, slcB, List.lookup, size_small, size_small', f6_law_choice, I_fn h5, f5_law_draw, e, hn, d1, d2, hd]
  done
end Tp
/-! Pl3: equality as the laws ask it. -/
namespace Tp
open PySem
/-- data of at most n levels, without dicts, not large -/
def gd : Nat → D → Bool
  | _, .none => true
  | _, .bool _ => true
  | _, .int _ => true
  | _, .str x => SeqAt.shaped (.str x)
  | n + 1, .tuple ds => decide (ds.length ≤ 1000) && ds.all (gd n)
  | n + 1, .list ds => decide (ds.length ≤ 1000) && ds.all (gd n)
  | _, _ => false
theorem gd_str {n : Nat} {x : Str} : gd n (.str x) = SeqAt.shaped (.str x) := by cases n <;> rfl
theorem gd_mono : ∀ {n m : Nat} {d : D}, gd n d = true → n ≤ m → gd m d = true
  | n, m, .none, _, _ => by cases m <;> rfl
  | n, m, .bool _, _, _ => by cases m <;> rfl
  | n, m, .int _, _, _ => by cases m <;> rfl
  | n, m, .str _, h, _ => by rw [gd_str] at h ⊢; exact h
  | 0, m, .tuple ds, h, _ => by simp [gd] at h
  | 0, m, .list ds, h, _ => by simp [gd] at h
  | n, m, .dict _, h, _ => by cases n <;> simp [gd] at h
  | n + 1, 0, .tuple ds, h, l => by omega
  | n + 1, 0, .list ds, h, l => by omega
  | n + 1, m + 1, .tuple ds, h, l => by
    simp only [gd, Bool.and_eq_true, List.all_eq_true] at h ⊢
    exact ⟨h.1, fun x hx => gd_mono (h.2 x hx) (by omega)⟩
  | n + 1, m + 1, .list ds, h, l => by
    simp only [gd, Bool.and_eq_true, List.all_eq_true] at h ⊢
    exact ⟨h.1, fun x hx => gd_mono (h.2 x hx) (by omega)⟩
@[simp] theorem shaped_bool (b : Bool) : SeqAt.shaped (.bool b) = true := rfl
@[simp] theorem shaped_int (b : Int) : SeqAt.shaped (.int b) = true := rfl
@[simp] theorem shaped_none : SeqAt.shaped .none = true := rfl
theorem eqv_bool (a b : Bool) : PyData.eqv (.bool a) (.bool b) = (a == b) := rfl
theorem eqv_int (a b : Int) : PyData.eqv (.int a) (.int b) = (a == b) := rfl
theorem eqv_str (a b : Str) : PyData.eqv (.str a) (.str b) = (a == b) := rfl
theorem rngs_mem {lo : Int} {n : Nat} {d : D} (h : d ∈ rngs lo n) : ∃ i, i < n ∧ d = .int (lo + (i : Nat)) := by
  unfold rngs at h
  obtain ⟨i, h1, h2⟩ := List.mem_map.mp h
  exact ⟨i, List.mem_range.mp h1, h2.symm⟩
theorem rngs_len (lo : Int) (n : Nat) : (rngs lo n).length = n := by simp [rngs]
theorem asRng_i {j : Int} {e : Env} (h0 : -(2 ^ 62) ≤ j) (h : j < 2 ^ 62) : asRng [.inl (.int j)] e = .ok (rngs 0 j.toNat, none) e := by
  unfold asRng
  simp only
  rw [if_pos ⟨h0, h⟩]
  rfl
theorem asRng_n {n : Nat} {e : Env} (h : n ≤ 2 ^ 61) : asRng [.inl (.int (n : Int))] e = .ok (rngs 0 n, none) e := by
  rw [asRng_i (by omega) (by omega), Int.toNat_natCast]
theorem asRng_ij {i j : Int} {e : Env} (h0 : -(2 ^ 62) ≤ i) (h1 : i < 2 ^ 62) (h2 : -(2 ^ 62) ≤ j) (h : j < 2 ^ 62) : asRng [.inl (.int i), .inl (.int j)] e = .ok (rngs i (j - i).toNat, none) e := by
  unfold asRng
  simp only
  rw [if_pos ⟨h0, h1, h2, h⟩]
  rfl
theorem boolsOf_true : ∀ l : List D, boolsOf (l.map fun _ => .bool true) = some (l.map fun _ => true)
  | [] => rfl
  | _ :: l => by
    rw [List.map_cons, boolsOf, boolsOf_true l]
    rfl
theorem allD_true (l : List D) : allD [.list (l.map fun _ => .bool true)] = some (.bool true) := by
  unfold allD
  simp only [boolsOf_true, Option.map_some]
  simp
theorem atI_at {ds : List D} {i : Nat} (h : i < ds.length) : L2.atI ds (i : Int) = some ds[i] := by
  unfold L2.atI L2.ixN
  simp [h]
theorem eqs_none {H : PG} (h7 : H.fns.lookup 7 = some f7_law_equal) (n : Nat) : run H (n+1) 7 [.none, .none] = .ok (.bool true) .none := by
  rw [run_at h7]
  simp [runB, denS, den, Den.of, Den.b, initE, initN, initV, BOp.f, COp.f, Bi.f, ixD, L2.atI, cmpI, intD, modD, divD, mulI, addD, subD, powD, negD, setM, changeM, setD, L2.ixN, putMine, liftE, Tgt.bind, bindAll, setV, setO, endB, outE, callM, callS, argD, argN, ioSlot, lenD, tupleD, listD, absD, isiD, isi2, isiAny, Tp.par2, putVO, augM, augF, appM, appD, wipeE, rngA, arity, asSrc, isNil, M.stuck, isND, notND, slcB, List.lookup, size_small, size_small', f7_law_equal, isi1, eqD, eqv_bool]
theorem eqs_bool {H : PG} (h7 : H.fns.lookup 7 = some f7_law_equal) (n : Nat) (b : Bool) : run H (n+1) 7 [(.bool b), (.bool b)] = .ok (.bool true) .none := by
  rw [run_at h7]
  simp [runB, denS, den, Den.of, Den.b, initE, initN, initV, BOp.f, COp.f, Bi.f, ixD, L2.atI, cmpI, intD, modD, divD, mulI, addD, subD, powD, negD, setM, changeM, setD, L2.ixN, putMine, liftE, Tgt.bind, bindAll, setV, setO, endB, outE, callM, callS, argD, argN, ioSlot, lenD, tupleD, listD, absD, isiD, isi2, isiAny, Tp.par2, putVO, augM, augF, appM, appD, wipeE, rngA, arity, asSrc, isNil, M.stuck, isND, notND, slcB, List.lookup, size_small, size_small', f7_law_equal, isi1, eqD, eqv_bool]
theorem eqs_int {H : PG} (h7 : H.fns.lookup 7 = some f7_law_equal) (n : Nat) (b : Int) : run H (n+1) 7 [(.int b), (.int b)] = .ok (.bool true) .none := by
  rw [run_at h7]
  simp [runB, denS, den, Den.of, Den.b, initE, initN, initV, BOp.f, COp.f, Bi.f, ixD, L2.atI, cmpI, intD, modD, divD, mulI, addD, subD, powD, negD, setM, changeM, setD, L2.ixN, putMine, liftE, Tgt.bind, bindAll, setV, setO, endB, outE, callM, callS, argD, argN, ioSlot, lenD, tupleD, listD, absD, isiD, isi2, isiAny, Tp.par2, putVO, augM, augF, appM, appD, wipeE, rngA, arity, asSrc, isNil, M.stuck, isND, notND, slcB, List.lookup, size_small, size_small', f7_law_equal, isi1, eqD, eqv_int]
theorem eqs_str {H : PG} (h7 : H.fns.lookup 7 = some f7_law_equal) (n : Nat) (b : Str) (h : SeqAt.shaped (.str b) = true) : run H (n+1) 7 [(.str b), (.str b)] = .ok (.bool true) .none := by
  rw [run_at h7]
  simp [runB, denS, den, Den.of, Den.b, initE, initN, initV, BOp.f, COp.f, Bi.f, ixD, L2.atI, cmpI, intD, modD, divD, mulI, addD, subD, powD, negD, setM, changeM, setD, L2.ixN, putMine, liftE, Tgt.bind, bindAll, setV, setO, endB, outE, callM, callS, argD, argN, ioSlot, lenD, tupleD, listD, absD, isiD, isi2, isiAny, Tp.par2, putVO, augM, augF, appM, appD, wipeE, rngA, arity, asSrc, isNil, M.stuck, isND, notND, slcB, List.lookup, size_small, size_small', f7_law_equal, isi1, eqD, eqv_str, h]
theorem eqs_tuple {H : PG} (h7 : H.fns.lookup 7 = some f7_law_equal) (n : Nat) (ds : List D) (hl : ds.length ≤ 1000) (ih : ∀ x ∈ ds, run H (n+1) 7 [x, x] = .ok (.bool true) .none) : run H (n+2) 7 [(.tuple ds), (.tuple ds)] = .ok (.bool true) .none := by
    have hz : ds.length ≤ 2 ^ 61 := by omega
    have hc : lcE H.I (run H (n + 1)) f7_law_equal_c1 [.val (.tuple ds), .val (.tuple ds), .no] = .ok (.list ((rngs 0 ds.length).map fun _ => .bool true)) [.val (.tuple ds), .val (.tuple ds), .no] := by
      unfold lcE f7_law_equal_c1
      simp only [den, Den.of]
      refine lcM_ok (p := (rngs 0 ds.length, none)) (e1 := [.val (.tuple ds), .val (.tuple ds), .no]) (e2 := [.val (.tuple ds), .val (.tuple ds), .no]) ?_ (by rw [rngs_len]; exact Nat.le_trans hl (by decide)) rfl rfl (lc_map (f := fun _ => .bool true) fun d hd => ?_)
      · simp [runB, denS, den, Den.of, Den.b, initE, initN, initV, BOp.f, COp.f, Bi.f, ixD, L2.atI, cmpI, intD, modD, divD, mulI, addD, subD, powD, negD, setM, changeM, setD, L2.ixN, putMine, liftE, Tgt.bind, bindAll, setV, setO, endB, outE, callM, callS, argD, argN, ioSlot, lenD, tupleD, listD, absD, isiD, isi2, isiAny, Tp.par2, putVO, augM, augF, appM, appD, wipeE, rngA, arity, asSrc, isNil, M.stuck, isND, notND, slcB, List.lookup, size_small, size_small', pureIE, I_fn h7, f7_law_equal, asRng_n hz]
      · obtain ⟨i, hi, rfl⟩ := rngs_mem hd
        refine ⟨[.val (.tuple ds), .val (.tuple ds), .val (.int (0 + i))], [.val (.tuple ds), .val (.tuple ds), .val (.int (0 + i))], rfl, rfl, ?_, rfl⟩
        have ih := ih ds[i] (List.getElem_mem hi)
        simp [runB, denS, den, Den.of, Den.b, initE, initN, initV, BOp.f, COp.f, Bi.f, ixD, L2.atI, cmpI, intD, modD, divD, mulI, addD, subD, powD, negD, setM, changeM, setD, L2.ixN, putMine, liftE, Tgt.bind, bindAll, setV, setO, endB, outE, callM, callS, argD, argN, ioSlot, lenD, tupleD, listD, absD, isiD, isi2, isiAny, Tp.par2, putVO, augM, augF, appM, appD, wipeE, rngA, arity, asSrc, isNil, M.stuck, isND, notND, slcB, List.lookup, size_small, size_small', I_fn h7, f7_law_equal, ih, hi]
    rw [run_at h7]
    simp [runB, denS, den, Den.of, Den.b, initE, initN, initV, BOp.f, COp.f, Bi.f, ixD, L2.atI, cmpI, intD, modD, divD, mulI, addD, subD, powD, negD, setM, changeM, setD, L2.ixN, putMine, liftE, Tgt.bind, bindAll, setV, setO, endB, outE, callM, callS, argD, argN, ioSlot, lenD, tupleD, listD, absD, isiD, isi2, isiAny, Tp.par2, putVO, augM, augF, appM, appD, wipeE, rngA, arity, asSrc, isNil, M.stuck, isND, notND, slcB, List.lookup, size_small, size_small', f7_law_equal, isi1, eqD, eqv_str, neD, eqv_int, eqv_bool, d_f7_law_equal_c1, hc, allD_true]
theorem eqs_list {H : PG} (h7 : H.fns.lookup 7 = some f7_law_equal) (n : Nat) (ds : List D) (hl : ds.length ≤ 1000) (ih : ∀ x ∈ ds, run H (n+1) 7 [x, x] = .ok (.bool true) .none) : run H (n+2) 7 [(.list ds), (.list ds)] = .ok (.bool true) .none := by
    have hz : ds.length ≤ 2 ^ 61 := by omega
    have hc : lcE H.I (run H (n + 1)) f7_law_equal_c1 [.val (.list ds), .val (.list ds), .no] = .ok (.list ((rngs 0 ds.length).map fun _ => .bool true)) [.val (.list ds), .val (.list ds), .no] := by
      unfold lcE f7_law_equal_c1
      simp only [den, Den.of]
      refine lcM_ok (p := (rngs 0 ds.length, none)) (e1 := [.val (.list ds), .val (.list ds), .no]) (e2 := [.val (.list ds), .val (.list ds), .no]) ?_ (by rw [rngs_len]; exact Nat.le_trans hl (by decide)) rfl rfl (lc_map (f := fun _ => .bool true) fun d hd => ?_)
      · simp [runB, denS, den, Den.of, Den.b, initE, initN, initV, BOp.f, COp.f, Bi.f, ixD, L2.atI, cmpI, intD, modD, divD, mulI, addD, subD, powD, negD, setM, changeM, setD, L2.ixN, putMine, liftE, Tgt.bind, bindAll, setV, setO, endB, outE, callM, callS, argD, argN, ioSlot, lenD, tupleD, listD, absD, isiD, isi2, isiAny, Tp.par2, putVO, augM, augF, appM, appD, wipeE, rngA, arity, asSrc, isNil, M.stuck, isND, notND, slcB, List.lookup, size_small, size_small', pureIE, I_fn h7, f7_law_equal, asRng_n hz]
      · obtain ⟨i, hi, rfl⟩ := rngs_mem hd
        refine ⟨[.val (.list ds), .val (.list ds), .val (.int (0 + i))], [.val (.list ds), .val (.list ds), .val (.int (0 + i))], rfl, rfl, ?_, rfl⟩
        have ih := ih ds[i] (List.getElem_mem hi)
        simp [runB, denS, den, Den.of, Den.b, initE, initN, initV, BOp.f, COp.f, Bi.f, ixD, L2.atI, cmpI, intD, modD, divD, mulI, addD, subD, powD, negD, setM, changeM, setD, L2.ixN, putMine, liftE, Tgt.bind, bindAll, setV, setO, endB, outE, callM, callS, argD, argN, ioSlot, lenD, tupleD, listD, absD, isiD, isi2, isiAny, Tp.par2, putVO, augM, augF, appM, appD, wipeE, rngA, arity, asSrc, isNil, M.stuck, isND, notND, slcB, List.lookup, size_small, size_small', I_fn h7, f7_law_equal, ih, hi]
    rw [run_at h7]
    simp [runB, denS, den, Den.of, Den.b, initE, initN, initV, BOp.f, COp.f, Bi.f, ixD, L2.atI, cmpI, intD, modD, divD, mulI, addD, subD, powD, negD, setM, changeM, setD, L2.ixN, putMine, liftE, Tgt.bind, bindAll, setV, setO, endB, outE, callM, callS, argD, argN, ioSlot, lenD, tupleD, listD, absD, isiD, isi2, isiAny, Tp.par2, putVO, augM, augF, appM, appD, wipeE, rngA, arity, asSrc, isNil, M.stuck, isND, notND, slcB, List.lookup, size_small, size_small', f7_law_equal, isi1, eqD, eqv_str, neD, eqv_int, eqv_bool, d_f7_law_equal_c1, hc, allD_true]
theorem equal_self {H : PG} (h7 : H.fns.lookup 7 = some f7_law_equal) (n : Nat) : ∀ (d : D), gd n d = true → run H (n+1) 7 [d, d] = .ok (.bool true) .none := by
  induction n with
  | zero =>
    intro d h
    cases d with
    | none => exact eqs_none h7 0
    | bool b => exact eqs_bool h7 0 b
    | int b => exact eqs_int h7 0 b
    | str b => exact eqs_str h7 0 b h
    | _ => simp [gd] at h
  | succ n ih =>
    intro d h
    cases d with
    | none => exact eqs_none h7 _
    | bool b => exact eqs_bool h7 _ b
    | int b => exact eqs_int h7 _ b
    | str b => exact eqs_str h7 _ b h
    | tuple ds =>
      simp only [gd, Bool.and_eq_true, List.all_eq_true, decide_eq_true_eq] at h
      exact eqs_tuple h7 n ds h.1 fun x hx => ih x (h.2 x hx)
    | list ds =>
      simp only [gd, Bool.and_eq_true, List.all_eq_true, decide_eq_true_eq] at h
      exact eqs_list h7 n ds h.1 fun x hx => ih x (h.2 x hx)
    | dict _ => simp [gd] at h
end Tp
/-! K16P: plans that are drawn. -/
namespace Tp
open PySem
theorem rngs_get {lo : Int} {n i : Nat} {d : D} (h : (rngs lo n)[i]? = some d) : i < n ∧ d = .int (lo + (i : Nat)) := by
  have hl := (List.getElem?_eq_some_iff.mp h).1
  rw [rngs_len] at hl
  unfold rngs at h
  rw [List.getElem?_map, List.getElem?_range hl] at h
  exact ⟨hl, (Option.some.inj h).symm⟩
def bodyOf : IS → IS
  | .for_ _ _ b _ => b
  | .while_ _ b _ _ => b
  | _ => .nil
abbrev Tr := Int × Int
def tD (t : Tr) : D := .tuple [.int t.1, .int t.2]
def tsD (ts : List Tr) : D := .tuple (ts.map tD)
/-- k tiers as the laws draw them -/
structure Tv (k : Nat) (ts : List Tr) : Prop where
  len : ts.length = k
  inc : ts.Pairwise fun a b => a.1 < b.1
  head : ∀ p, ts[0]? = some p → p.1 = 0
  lo : ∀ p ∈ ts, 0 ≤ p.1
  hi : ∀ p ∈ ts, p.1 ≤ k * 10 ^ 11
  pc : ∀ p ∈ ts, 0 ≤ p.2 ∧ p.2 ≤ 100
theorem Tv.nil : Tv 0 [] := ⟨rfl, .nil, fun p h => (by cases h), fun p h => (by cases h), fun p h => (by cases h), fun p h => (by cases h)⟩
theorem Tv.snoc {k : Nat} {c : List Tr} (h : Tv k c) {p : Tr} (h0 : k = 0 → p.1 = 0) (h1 : ∀ q ∈ c, q.1 < p.1) (h2 : 0 ≤ p.1) (h3 : p.1 ≤ k * 10 ^ 11) (h4 : 0 ≤ p.2 ∧ p.2 ≤ 100) : Tv (k + 1) (c ++ [p]) := by
  refine ⟨by simp [h.len], ?_, fun q hq => ?_, fun q hq => ?_, fun q hq => ?_, fun q hq => ?_⟩
  · rw [List.pairwise_append]
    refine ⟨h.inc, List.pairwise_singleton _ _, fun a ha b hb => ?_⟩
    rw [List.mem_singleton] at hb
    subst hb
    exact h1 a ha
  · cases c with
    | nil =>
      cases hq
      exact h0 h.len.symm
    | cons a c => exact h.head q (by simpa using hq)
  · rcases List.mem_append.mp hq with hq | hq
    · exact h.lo q hq
    · rw [List.mem_singleton] at hq
      subst hq
      exact h2
  · rcases List.mem_append.mp hq with hq | hq
    · have := h.hi q hq
      omega
    · rw [List.mem_singleton] at hq
      subst hq
      omega
  · rcases List.mem_append.mp hq with hq | hq
    · exact h.pc q hq
    · rw [List.mem_singleton] at hq
      subst hq
      exact h4
structure TvI (t : Nat) (k : Nat) (e : Env) : Prop where
  ex : ∃ (s : D) (c : List Tr) (st wide : Int), e = [.io s, .own (.list (c.map tD)), .val (.int st), .val (.int wide), .no] ∧ Sor (t + 4 * k) s ∧ Tv k c ∧ (∀ p ∈ c, p.1 < st) ∧ 0 ≤ st ∧ st ≤ k * 10 ^ 11 ∧ 1 ≤ wide ∧ wide ≤ 10 ^ 11
section
variable {H : PG} {n : Nat} (h5 : H.fns.lookup 5 = some f5_law_draw) (h6 : H.fns.lookup 6 = some f6_law_choice)
include h5 h6
theorem tiers_step {t k : Nat} {e : Env} (ht : t + 4 * k + 8 < 2 ^ 20) (hk : k < 900) (h : TvI t k e) :
    ∃ e1 e2 e3, (Tgt.one 4).bind (.int k) e = some e1 ∧ denS H.I (run H (n+2)) (bodyOf f124_law_tiers_l1) e1 = .nx e2 ∧ wipeE e2 [4] = some e3 ∧ TvI t (k + 1) e3 := by
  obtain ⟨s, c, st, wide, rfl, hs, hc, h1, h2, h3, hw1, hw2⟩ := h.ex
  obtain ⟨d1, s1, e1, b1, b2, hs1⟩ := draw_run (n := n + 1) h5 hs (by omega) (size := 101) (by decide) (by decide)
  obtain ⟨x, s2, e2, hx, hs2⟩ := choice_run (n := n) h5 h6 hs1 (by omega) (xs := [.int 0, .int 1, .int 5, .int 10, .int 100, .int d1]) (by simp) (Nat.le_trans (show _ ≤ 1000 by simp) (by decide))
  obtain ⟨v, rfl, hv⟩ : ∃ v : Int, x = .int v ∧ 0 ≤ v ∧ v ≤ 100 := by
    simp only [List.mem_cons, List.not_mem_nil, or_false] at hx
    rcases hx with h | h | h | h | h | h <;> exact ⟨_, h, by omega, by omega⟩
  obtain ⟨d3, s3, e3, b4, b5, hs3⟩ := draw_run (n := n + 1) h5 hs2 (by omega) (size := wide) hw1 (sm_64 (by omega) (by omega))
  have hsz : c.length < sizeLine := by rw [hc.len]; exact Nat.lt_of_lt_of_le hk (by decide)
  refine ⟨[.io s, .own (.list (c.map tD)), .val (.int st), .val (.int wide), .val (.int k)], [.io s3, .own (.list ((c ++ [(st, v)]).map tD)), .val (.int (st + 1 + d3)), .val (.int wide), .val (.int k)], [.io s3, .own (.list ((c ++ [(st, v)]).map tD)), .val (.int (st + 1 + d3)), .val (.int wide), .no], rfl, ?_, rfl,
    ⟨s3, c ++ [(st, v)], _, _, rfl, hs3.mono (by omega), hc.snoc (p := (st, v)) (fun z => ?_) h1 h2 h3 hv, ?_, by omega, by omega, hw1, hw2⟩⟩
  · simp [bodyOf, runB, denS, den, Den.of, Den.b, initE, initN, initV, BOp.f, COp.f, Bi.f, ixD, L2.atI, cmpI, intD, modD, divD, mulI, addD, subD, powD, negD, setM, changeM, setD, L2.ixN, putMine, liftE, Tgt.bind, bindAll, setV, setO, endB, outE, callM, callS, argD, argN, ioSlot, lenD, tupleD, listD, absD, isiD, isi2, isiAny, Tp.par2, putVO, augM, augF, appM, appD, wipeE, rngA, arity, asSrc, isNil, M.stuck, isND, notND, slcB, List.lookup, size_small, size_small', f124_law_tiers_l1, I_fn h5, I_fn h6, f5_law_draw, f6_law_choice, e1, e2, e3, tD, hsz]
  · show st = 0
    subst z
    omega
  · intro r hr
    rcases List.mem_append.mp hr with hr | hr
    · have := h1 r hr
      omega
    · rw [List.mem_singleton] at hr
      subst hr
      show st < st + 1 + d3
      omega
theorem tiers_run (h124 : H.fns.lookup 124 = some f124_law_tiers) {t : Nat} (ht : t + 50 < 2 ^ 20) {s : D} (hs : Sor t s) :
    ∃ k c s', run H (n+3) 124 [s] = .ok (tsD c) s' ∧ 1 ≤ k ∧ k ≤ 5 ∧ Tv k c ∧ Sor (t + 22) s' := by
  obtain ⟨x, s1, e1, hx, hs1⟩ := choice_run (n := n) h5 h6 hs (by omega) (xs := [.int 1, .int 5, .int 100, .int 10000, .int 100000000000]) (by simp) (Nat.le_trans (show _ ≤ 1000 by simp) (by decide))
  obtain ⟨w, rfl, hw1, hw2⟩ : ∃ v : Int, x = .int v ∧ 1 ≤ v ∧ v ≤ 10 ^ 11 := by
    simp only [List.mem_cons, List.not_mem_nil, or_false] at hx
    rcases hx with h | h | h | h | h <;> exact ⟨_, h, by omega, by omega⟩
  obtain ⟨d, s2, e2, b1, b2, hs2⟩ := draw_run (n := n + 1) h5 hs1 (by omega) (size := 5) (by decide) (by decide)
  have i0 : TvI (t + 2) 0 [.io s2, .own (.list []), .val (.int 0), .val (.int w), .no] := ⟨s2, [], 0, w, rfl, hs2.mono (by omega), Tv.nil, fun p h => (by cases h), by omega, by omega, hw1, hw2⟩
  have em : ((1 + d.toNat : Nat) : Int) = 1 + d := by omega
  obtain ⟨eF, k1, k2⟩ := for_inv (t := .one 4) (mb := denS H.I (run H (n+2)) (bodyOf f124_law_tiers_l1)) (kill := [4]) (I := TvI (t + 2)) (ds := rngs 0 (1 + d.toNat)) (n := 0) i0 fun i d' e hd hi => by
    obtain ⟨hj, rfl⟩ := rngs_get hd
    rw [Nat.zero_add] at hi ⊢
    obtain ⟨e1, e2, e3, a1, a2, a3, a4⟩ := tiers_step (n := n) h5 h6 (t := t + 2) (k := i) (by omega) (by omega) hi
    exact ⟨e1, e2, e3, by rw [Int.zero_add]; exact a1, .inl a2, a3, a4⟩
  obtain ⟨s3, c, st, wide, rfl, hs3, hc, _⟩ := k2.ex
  rw [Nat.zero_add, rngs_len] at hs3 hc
  refine ⟨1 + d.toNat, c, s3, ?_, by omega, by omega, hc, hs3.mono (by omega)⟩
  have hl : denS H.I (run H (n+2)) f124_law_tiers_l1 [.io s1, .own (.list []), .val (.int 0), .val (.int w), .no] = .nx [.io s3, .own (.list (c.map tD)), .val (.int st), .val (.int wide), .no] := by
    unfold f124_law_tiers_l1 at k1 ⊢
    simp only [denS]
    have hr := asRng_n (n := 1 + d.toNat) (e := [.io s2, .own (.list []), .val (.int 0), .val (.int w), .no]) (by omega)
    rw [em] at hr
    rw [forM_val (ds := rngs 0 (1 + d.toNat)) (e1 := [.io s2, .own (.list []), .val (.int 0), .val (.int w), .no]) (by simp [runB, denS, den, Den.of, Den.b, initE, initN, initV, BOp.f, COp.f, Bi.f, ixD, L2.atI, cmpI, intD, modD, divD, mulI, addD, subD, powD, negD, setM, changeM, setD, L2.ixN, putMine, liftE, Tgt.bind, bindAll, setV, setO, endB, outE, callM, callS, argD, argN, ioSlot, lenD, tupleD, listD, absD, isiD, isi2, isiAny, Tp.par2, putVO, augM, augF, appM, appD, wipeE, rngA, arity, asSrc, isNil, M.stuck, isND, notND, slcB, List.lookup, size_small, size_small', I_fn h5, f5_law_draw, e2, hr])]
    exact k1
  rw [run_at h124]
  simp [runB, denS, den, Den.of, Den.b, initE, initN, initV, BOp.f, COp.f, Bi.f, ixD, L2.atI, cmpI, intD, modD, divD, mulI, addD, subD, powD, negD, setM, changeM, setD, L2.ixN, putMine, liftE, Tgt.bind, bindAll, setV, setO, endB, outE, callM, callS, argD, argN, ioSlot, lenD, tupleD, listD, absD, isiD, isi2, isiAny, Tp.par2, putVO, augM, augF, appM, appD, wipeE, rngA, arity, asSrc, isNil, M.stuck, isND, notND, slcB, List.lookup, size_small, size_small', f124_law_tiers, I_fn h5, I_fn h6, f5_law_draw, f6_law_choice, e1, hl, tsD]
end
end Tp
/-! K16Q: plans are recognized. -/
namespace Tp
open PySem
def kS (w : Bool) : Str := if w then "whole" else "slices"
def planD (w : Bool) (ts : List Tr) (cap : D) : D := .tuple [.str (kS w), tsD ts, cap]
def capOk (cap : D) : Prop := cap = .none ∨ ∃ c : Int, cap = .int c ∧ 0 ≤ c ∧ c ≤ 10 ^ 6
theorem sh_whole : SeqAt.shaped (.str "whole") = true := by decide +kernel
theorem sh_slices : SeqAt.shaped (.str "slices") = true := by decide +kernel
theorem kin (w : Bool) : inD (.str (kS w)) (.tuple [.str "slices", .str "whole"]) = some (.bool true) := by cases w <;> kernel_rfl
theorem keq (w : Bool) : eqD (.str (kS w)) (.str "whole") = some (.bool w) := by cases w <;> kernel_rfl
section
variable {H : PG} {n : Nat} (h1 : H.fns.lookup 1 = some f1_is_integer) (h5 : H.fns.lookup 5 = some f5_law_draw) (h6 : H.fns.lookup 6 = some f6_law_choice) (h118 : H.fns.lookup 118 = some f118_is_within) (h119 : H.fns.lookup 119 = some f119_are_tiers) (h120 : H.fns.lookup 120 = some f120_is_plan) (h121 : H.fns.lookup 121 = some f121_check_plan) (h124 : H.fns.lookup 124 = some f124_law_tiers) (h125 : H.fns.lookup 125 = some f125_law_plan)
  (g1 : H.gl.lookup ("MOST_TIERS" : Str) = some (.int 8)) (g2 : H.gl.lookup ("MOST_AMOUNT" : Str) = some (.int 1000000000000))
include h1 in
theorem int_run {i : Int} : run H (n+1) 1 [.int i] = .ok (.bool true) .none := by
  rw [run_at h1]
  simp [runB, denS, den, Den.of, Den.b, initE, initN, initV, BOp.f, COp.f, Bi.f, ixD, L2.atI, cmpI, intD, modD, divD, mulI, addD, subD, powD, negD, setM, changeM, setD, L2.ixN, putMine, liftE, Tgt.bind, bindAll, setV, setO, endB, outE, callM, callS, argD, argN, ioSlot, lenD, tupleD, listD, absD, isiD, isi2, isiAny, Tp.par2, putVO, augM, augF, appM, appD, wipeE, rngA, arity, asSrc, isNil, M.stuck, isND, notND, slcB, List.lookup, size_small, size_small', f1_is_integer, isi1]
include h1 h118 in
theorem within_run {i a b : Int} (h : a ≤ i) (h' : i ≤ b) : run H (n+2) 118 [.int i, .int a, .int b] = .ok (.bool true) .none := by
  have e := int_run (n := n) h1 (i := i)
  rw [run_at h118]
  simp [runB, denS, den, Den.of, Den.b, initE, initN, initV, BOp.f, COp.f, Bi.f, ixD, L2.atI, cmpI, intD, modD, divD, mulI, addD, subD, powD, negD, setM, changeM, setD, L2.ixN, putMine, liftE, Tgt.bind, bindAll, setV, setO, endB, outE, callM, callS, argD, argN, ioSlot, lenD, tupleD, listD, absD, isiD, isi2, isiAny, Tp.par2, putVO, augM, augF, appM, appD, wipeE, rngA, arity, asSrc, isNil, M.stuck, isND, notND, slcB, List.lookup, size_small, size_small', f118_is_within, I_fn h1, f1_is_integer, e, h, h']
include h5 h6 h124 h125 in
theorem plan_run {t : Nat} (ht : t + 60 < 2 ^ 20) {s : D} (hs : Sor t s) :
    ∃ w k ts cap s', run H (n+4) 125 [s] = .ok (planD w ts cap) s' ∧ 1 ≤ k ∧ k ≤ 5 ∧ Tv k ts ∧ capOk cap ∧ Sor (t + 30) s' := by
  obtain ⟨x, s1, e1, hx, hs1⟩ := choice_run (n := n + 1) h5 h6 hs (by omega) (xs := [.str "slices", .str "whole"]) (by simp) (Nat.le_trans (show _ ≤ 1000 by simp) (by decide))
  obtain ⟨w, rfl⟩ : ∃ w, x = .str (kS w) := by
    simp only [List.mem_cons, List.not_mem_nil, or_false] at hx
    rcases hx with h | h
    · exact ⟨false, h⟩
    · exact ⟨true, h⟩
  obtain ⟨d2, s2, e2, a2, b2, hs2⟩ := draw_run (n := n + 2) h5 hs1 (by omega) (size := 100) (by decide) (by decide)
  obtain ⟨d3, s3, e3, a3, b3, hs3⟩ := draw_run (n := n + 2) h5 hs2 (by omega) (size := 1000000) (by decide) (by decide)
  obtain ⟨cap, s4, e4, hc, hs4⟩ := choice_run (n := n + 1) h5 h6 hs3 (by omega) (xs := [.none, .none, .none, .int d2, .int d3, .int 0]) (by simp) (Nat.le_trans (show _ ≤ 1000 by simp) (by decide))
  obtain ⟨k, ts, s5, e5, k1, k5, hts, hs5⟩ := tiers_run (n := n) h5 h6 h124 (by omega) hs4
  refine ⟨w, k, ts, cap, s5, ?_, k1, k5, hts, ?_, hs5.mono (by omega)⟩
  · rw [run_at h125]
    simp [runB, denS, den, Den.of, Den.b, initE, initN, initV, BOp.f, COp.f, Bi.f, ixD, L2.atI, cmpI, intD, modD, divD, mulI, addD, subD, powD, negD, setM, changeM, setD, L2.ixN, putMine, liftE, Tgt.bind, bindAll, setV, setO, endB, outE, callM, callS, argD, argN, ioSlot, lenD, tupleD, listD, absD, isiD, isi2, isiAny, Tp.par2, putVO, augM, augF, appM, appD, wipeE, rngA, arity, asSrc, isNil, M.stuck, isND, notND, slcB, List.lookup, size_small, size_small', f125_law_plan, I_fn h5, I_fn h6, I_fn h124, f5_law_draw, f6_law_choice, f124_law_tiers, e1, e2, e3, e4, e5, planD]
  · simp only [List.mem_cons, List.not_mem_nil, or_false] at hc
    rcases hc with h | h | h | h | h | h
    · exact .inl h
    · exact .inl h
    · exact .inl h
    · exact .inr ⟨_, h, by omega, by omega⟩
    · exact .inr ⟨_, h, by omega, by omega⟩
    · exact .inr ⟨_, h, by omega, by omega⟩
include h1 h118 g2 in
theorem tiers_loop {v : D} : ∀ {ts : List Tr} {last : Int}, (∀ p ∈ ts, last < p.1 ∧ p.1 ≤ 10 ^ 12 ∧ 0 ≤ p.2 ∧ p.2 ≤ 100) → ts.Pairwise (fun a b => a.1 < b.1) →
    ∃ l, forLoop (.one 2) (denS H.I (run H (n+2)) (bodyOf f119_are_tiers_l1)) [2] (ts.map tD) [.val v, .val (.int last), .no] = .nx [.val v, .val (.int l), .no]
  | [], last, _, _ => ⟨last, rfl⟩
  | p :: ts, last, h, hp => by
    obtain ⟨a1, a2, a3, a4⟩ := h p List.mem_cons_self
    obtain ⟨b1, b2⟩ := List.pairwise_cons.mp hp
    obtain ⟨l, ih⟩ := tiers_loop (v := v) (ts := ts) (last := p.1) (fun q hq => ⟨b1 q hq, (h q (List.mem_cons_of_mem _ hq)).2⟩) b2
    have g2' : H.I.gl.lookup ("MOST_AMOUNT" : Str) = some (.int 1000000000000) := g2
    have e1 := within_run (n := n) h1 h118 (i := p.1) (a := last + 1) (b := 1000000000000) (by omega) (by omega)
    have e2 := within_run (n := n) h1 h118 (i := p.2) (a := 0) (b := 100) a3 a4
    have st : denS H.I (run H (n+2)) (bodyOf f119_are_tiers_l1) [.val v, .val (.int last), .val (tD p)] = .nx [.val v, .val (.int p.1), .val (tD p)] := by
      simp [bodyOf, f119_are_tiers_l1, runB, denS, den, Den.of, Den.b, initE, initN, initV, BOp.f, COp.f, Bi.f, ixD, L2.atI, cmpI, intD, modD, divD, mulI, addD, subD, powD, negD, setM, changeM, setD, L2.ixN, putMine, liftE, Tgt.bind, bindAll, setV, setO, endB, outE, callM, callS, argD, argN, ioSlot, lenD, tupleD, listD, absD, isiD, isi2, isiAny, Tp.par2, putVO, augM, augF, appM, appD, wipeE, rngA, arity, asSrc, isNil, M.stuck, isND, notND, slcB, List.lookup, size_small, size_small', isi1, tD, neD, eqv_int, I_fn h118, f118_is_within, e1, e2, g2']
    refine ⟨l, ?_⟩
    rw [List.map_cons]
    unfold forLoop
    simp only [Tgt.bind, setV, List.getElem?_cons_succ, List.getElem?_cons_zero, List.set_cons_succ, List.set_cons_zero, st, wipeE, Option.bind_some]
    exact ih
include h1 h118 h119 g1 g2 in
theorem are_tiers_run {k : Nat} {ts : List Tr} (hts : Tv k ts) (k1 : 1 ≤ k) (k5 : k ≤ 5) : run H (n+3) 119 [tsD ts] = .ok (.bool true) .none := by
  have hlen := hts.len
  have g1' : H.I.gl.lookup ("MOST_TIERS" : Str) = some (.int 8) := g1
  obtain ⟨q, r, rfl⟩ : ∃ q r, ts = q :: r := by
    cases ts with
    | nil => simp at hlen; omega
    | cons q r => exact ⟨q, r, rfl⟩
  have q0 := hts.head q rfl
  obtain ⟨l, hl⟩ := tiers_loop (n := n) h1 h118 g2 (v := tsD (q :: r)) (ts := q :: r) (last := -1) (fun p hp => by
    have := hts.lo p hp
    have := hts.hi p hp
    have := hts.pc p hp
    omega) hts.inc
  have hL : denS H.I (run H (n+2)) f119_are_tiers_l1 [.val (tsD (q :: r)), .val (.int (-1)), .no] = .nx [.val (tsD (q :: r)), .val (.int l), .no] := by
    unfold f119_are_tiers_l1
    simp only [denS]
    rw [forM_val (ds := (q :: r).map tD) (e1 := [.val (tsD (q :: r)), .val (.int (-1)), .no]) (by simp [runB, denS, den, Den.of, Den.b, initE, initN, initV, BOp.f, COp.f, Bi.f, ixD, L2.atI, cmpI, intD, modD, divD, mulI, addD, subD, powD, negD, setM, changeM, setD, L2.ixN, putMine, liftE, Tgt.bind, bindAll, setV, setO, endB, outE, callM, callS, argD, argN, ioSlot, lenD, tupleD, listD, absD, isiD, isi2, isiAny, Tp.par2, putVO, augM, augF, appM, appD, wipeE, rngA, arity, asSrc, isNil, M.stuck, isND, notND, slcB, List.lookup, size_small, size_small', tsD])]
    exact hl
  have z1 : (r.length : Int) + 1 ≤ 8 := by simp at hlen; omega
  have z2 : (1 : Int) ≤ (r.length : Int) + 1 := by omega
  rw [run_at h119]
  simp [tsD, tD, q0] at hL
  simp [runB, denS, den, Den.of, Den.b, initE, initN, initV, BOp.f, COp.f, Bi.f, ixD, L2.atI, cmpI, intD, modD, divD, mulI, addD, subD, powD, negD, setM, changeM, setD, L2.ixN, putMine, liftE, Tgt.bind, bindAll, setV, setO, endB, outE, callM, callS, argD, argN, ioSlot, lenD, tupleD, listD, absD, isiD, isi2, isiAny, Tp.par2, putVO, augM, augF, appM, appD, wipeE, rngA, arity, asSrc, isNil, M.stuck, isND, notND, slcB, List.lookup, size_small, size_small', f119_are_tiers, isi1, tsD, g1', z1, z2, hL, tD, eqD, eqv_int, q0]
include h1 h118 h119 h120 h121 g1 g2 in
theorem check_plan_run {w : Bool} {k : Nat} {ts : List Tr} {cap : D} (hts : Tv k ts) (k1 : 1 ≤ k) (k5 : k ≤ 5) (hc : capOk cap) : run H (n+5) 121 [planD w ts cap] = .ok .none .none := by
  have e1 := are_tiers_run (n := n) h1 h118 h119 g1 g2 hts k1 k5
  have g2' : H.I.gl.lookup ("MOST_AMOUNT" : Str) = some (.int 1000000000000) := g2
  have e2 : run H (n+4) 120 [planD w ts cap] = .ok (.bool true) .none := by
    have k1 := kin w
    have k2 : (2 : Nat) ≤ sizeLine := by decide
    rw [run_at h120]
    rcases hc with rfl | ⟨c, rfl, c1, c2⟩
    · simp [runB, denS, den, Den.of, Den.b, initE, initN, initV, BOp.f, COp.f, Bi.f, ixD, L2.atI, cmpI, intD, modD, divD, mulI, addD, subD, powD, negD, setM, changeM, setD, L2.ixN, putMine, liftE, Tgt.bind, bindAll, setV, setO, endB, outE, callM, callS, argD, argN, ioSlot, lenD, tupleD, listD, absD, isiD, isi2, isiAny, Tp.par2, putVO, augM, augF, appM, appD, wipeE, rngA, arity, asSrc, isNil, M.stuck, isND, notND, slcB, List.lookup, size_small, size_small', f120_is_plan, planD, isi1, neD, eqv_int, notInD, k1, I_fn h119, f119_are_tiers, e1]
    · have e3 := within_run (n := n + 1) h1 h118 (i := c) (a := 0) (b := 1000000000000) c1 (by omega)
      simp [runB, denS, den, Den.of, Den.b, initE, initN, initV, BOp.f, COp.f, Bi.f, ixD, L2.atI, cmpI, intD, modD, divD, mulI, addD, subD, powD, negD, setM, changeM, setD, L2.ixN, putMine, liftE, Tgt.bind, bindAll, setV, setO, endB, outE, callM, callS, argD, argN, ioSlot, lenD, tupleD, listD, absD, isiD, isi2, isiAny, Tp.par2, putVO, augM, augF, appM, appD, wipeE, rngA, arity, asSrc, isNil, M.stuck, isND, notND, slcB, List.lookup, size_small, size_small', f120_is_plan, planD, isi1, neD, eqv_int, notInD, k1, I_fn h119, I_fn h118, f118_is_within, f119_are_tiers, e1, e3, g2']
  rw [run_at h121]
  simp [runB, denS, den, Den.of, Den.b, initE, initN, initV, BOp.f, COp.f, Bi.f, ixD, L2.atI, cmpI, intD, modD, divD, mulI, addD, subD, powD, negD, setM, changeM, setD, L2.ixN, putMine, liftE, Tgt.bind, bindAll, setV, setO, endB, outE, callM, callS, argD, argN, ioSlot, lenD, tupleD, listD, absD, isiD, isi2, isiAny, Tp.par2, putVO, augM, augF, appM, appD, wipeE, rngA, arity, asSrc, isNil, M.stuck, isND, notND, slcB, List.lookup, size_small, size_small', f121_check_plan, I_fn h120, f120_is_plan, e2]
end
end Tp
/-! K16R: rows. -/
namespace Tp
open PySem
abbrev Rw := Int × Int × Int
def rD (r : Rw) : D := .tuple [.int r.1, .int r.2.1, .int r.2.2]
def keepT (w : Bool) (x : Int) (t : Tr) : Bool := decide (t.1 < x) || (w && decide (t.1 = x))
/-- the rows of the tiers that are reached, x behind the last -/
def rowsL : List Tr → Int → List Rw
  | [], _ => []
  | [t], x => [(t.1, x - t.1, t.2)]
  | t :: u :: r, x => (t.1, u.1 - t.1, t.2) :: rowsL (u :: r) x
section
variable {P : PgI} {cf : Nat → List D → FRes}
theorem rows_c3 {w : Bool} {ts : List Tr} {cap : D} {x : Int} (hl : ts.length ≤ 1000) : lcE P cf f145_rows_c3 [.val (planD w ts cap), .val (.int x), .no, .no, .no, .no] = .ok (.list ((ts.filter (keepT w x)).map tD)) [.val (planD w ts cap), .val (.int x), .no, .no, .no, .no] := by
  unfold lcE f145_rows_c3
  simp only [den, Den.of]
  let f : D → Bool := fun d => match d with | .tuple [.int a, .int b] => keepT w x (a, b) | _ => false
  have hf : ((ts.map tD).filter f).map id = (ts.filter (keepT w x)).map tD := by
    rw [List.map_id, List.filter_map]
    rfl
  rw [← hf]
  refine lcM_ok (p := (ts.map tD, none)) (e1 := [.val (planD w ts cap), .val (.int x), .no, .no, .no, .no]) (e2 := [.val (planD w ts cap), .val (.int x), .no, .no, .no, .no]) ?_ (by rw [List.length_map]; exact Nat.le_trans hl (by decide)) rfl rfl (lc_filter (f := id) fun q hq => ?_)
  · simp [runB, denS, den, Den.of, Den.b, initE, initN, initV, BOp.f, COp.f, Bi.f, ixD, L2.atI, cmpI, intD, modD, divD, mulI, addD, subD, powD, negD, setM, changeM, setD, L2.ixN, putMine, liftE, Tgt.bind, bindAll, setV, setO, endB, outE, callM, callS, argD, argN, ioSlot, lenD, tupleD, listD, absD, isiD, isi2, isiAny, Tp.par2, putVO, augM, augF, appM, appD, wipeE, rngA, arity, asSrc, isNil, M.stuck, isND, notND, slcB, List.lookup, size_small, size_small', pureIE, planD, tsD]
  · obtain ⟨p, hp, rfl⟩ := List.mem_map.mp hq
    refine ⟨[.val (planD w ts cap), .val (.int x), .no, .no, .val (tD p), .no], [.val (planD w ts cap), .val (.int x), .no, .no, .val (tD p), .no], rfl, ?_, fun _ => ?_, fun _ => rfl, rfl⟩
    · have kw := keq w
      by_cases h1 : p.1 < x
      · simp [runB, denS, den, Den.of, Den.b, initE, initN, initV, BOp.f, COp.f, Bi.f, ixD, L2.atI, cmpI, intD, modD, divD, mulI, addD, subD, powD, negD, setM, changeM, setD, L2.ixN, putMine, liftE, Tgt.bind, bindAll, setV, setO, endB, outE, callM, callS, argD, argN, ioSlot, lenD, tupleD, listD, absD, isiD, isi2, isiAny, Tp.par2, putVO, augM, augF, appM, appD, wipeE, rngA, arity, asSrc, isNil, M.stuck, isND, notND, slcB, List.lookup, size_small, size_small', planD, tD, f, keepT, h1]
      · cases w with
        | false => simp [runB, denS, den, Den.of, Den.b, initE, initN, initV, BOp.f, COp.f, Bi.f, ixD, L2.atI, cmpI, intD, modD, divD, mulI, addD, subD, powD, negD, setM, changeM, setD, L2.ixN, putMine, liftE, Tgt.bind, bindAll, setV, setO, endB, outE, callM, callS, argD, argN, ioSlot, lenD, tupleD, listD, absD, isiD, isi2, isiAny, Tp.par2, putVO, augM, augF, appM, appD, wipeE, rngA, arity, asSrc, isNil, M.stuck, isND, notND, slcB, List.lookup, size_small, size_small', planD, tD, f, keepT, h1, kw]
        | true =>
          by_cases h2 : p.1 = x
          · have e2 : eqD (.int p.1) (.int x) = some (.bool true) := by rw [h2]; simp [eqD, eqv_int]
            simp [runB, denS, den, Den.of, Den.b, initE, initN, initV, BOp.f, COp.f, Bi.f, ixD, L2.atI, cmpI, intD, modD, divD, mulI, addD, subD, powD, negD, setM, changeM, setD, L2.ixN, putMine, liftE, Tgt.bind, bindAll, setV, setO, endB, outE, callM, callS, argD, argN, ioSlot, lenD, tupleD, listD, absD, isiD, isi2, isiAny, Tp.par2, putVO, augM, augF, appM, appD, wipeE, rngA, arity, asSrc, isNil, M.stuck, isND, notND, slcB, List.lookup, size_small, size_small', planD, tD, f, keepT, h1, h2, kw] at e2 ⊢
            simp [e2]
          · have e2 : eqD (.int p.1) (.int x) = some (.bool false) := by simp [eqD, eqv_int, h2]
            simp [runB, denS, den, Den.of, Den.b, initE, initN, initV, BOp.f, COp.f, Bi.f, ixD, L2.atI, cmpI, intD, modD, divD, mulI, addD, subD, powD, negD, setM, changeM, setD, L2.ixN, putMine, liftE, Tgt.bind, bindAll, setV, setO, endB, outE, callM, callS, argD, argN, ioSlot, lenD, tupleD, listD, absD, isiD, isi2, isiAny, Tp.par2, putVO, augM, augF, appM, appD, wipeE, rngA, arity, asSrc, isNil, M.stuck, isND, notND, slcB, List.lookup, size_small, size_small', planD, tD, f, keepT, h1, h2, kw, e2]
    · simp [runB, denS, den, Den.of, Den.b, initE, initN, initV, BOp.f, COp.f, Bi.f, ixD, L2.atI, cmpI, intD, modD, divD, mulI, addD, subD, powD, negD, setM, changeM, setD, L2.ixN, putMine, liftE, Tgt.bind, bindAll, setV, setO, endB, outE, callM, callS, argD, argN, ioSlot, lenD, tupleD, listD, absD, isiD, isi2, isiAny, Tp.par2, putVO, augM, augF, appM, appD, wipeE, rngA, arity, asSrc, isNil, M.stuck, isND, notND, slcB, List.lookup, size_small, size_small']
theorem rows_c2 {a b e : Slot} {fs : List Tr} (hl : fs.length ≤ 1000) (h1 : 1 ≤ fs.length) : lcE P cf f145_rows_c2 [a, b, .val (.list (fs.map tD)), e, .no, .no] = .ok (.list ((fs.drop 1).map fun t => .int t.1)) [a, b, .val (.list (fs.map tD)), e, .no, .no] := by
  unfold lcE f145_rows_c2
  simp only [den, Den.of]
  have hcut : cutD (fs.map tD) (some 1) none = (fs.map tD).drop 1 := by
    have e : HT.sIx (fs.map tD).length 0 (some 1) = 1 := by
      have := HT.sIx_nat (fs.map tD).length 0 1
      rw [Nat.min_eq_left (by rw [List.length_map]; exact h1)] at this
      exact this
    unfold cutD
    rw [HT.sIx_none, e]
    exact List.take_of_length_le (by rw [List.length_drop]; exact Nat.le_refl _)
  let f : D → D := fun d => match d with | .tuple (a :: _) => a | d => d
  have hf : ((fs.map tD).drop 1).map f = (fs.drop 1).map fun t => .int t.1 := by
    rw [← List.map_drop, List.map_map]
    rfl
  rw [← hf]
  refine lcM_ok (p := ((fs.map tD).drop 1, none)) (e1 := [a, b, .val (.list (fs.map tD)), e, .no, .no]) (e2 := [a, b, .val (.list (fs.map tD)), e, .no, .no]) ?_ (by rw [List.length_drop, List.length_map]; exact Nat.le_trans (Nat.le_trans (Nat.sub_le _ _) hl) (by decide)) rfl rfl (lc_map (f := f) fun q hq => ?_)
  · simp at hcut
    simp [runB, denS, den, Den.of, Den.b, initE, initN, initV, BOp.f, COp.f, Bi.f, ixD, L2.atI, cmpI, intD, modD, divD, mulI, addD, subD, powD, negD, setM, changeM, setD, L2.ixN, putMine, liftE, Tgt.bind, bindAll, setV, setO, endB, outE, callM, callS, argD, argN, ioSlot, lenD, tupleD, listD, absD, isiD, isi2, isiAny, Tp.par2, putVO, augM, augF, appM, appD, wipeE, rngA, arity, asSrc, isNil, M.stuck, isND, notND, slcB, List.lookup, size_small, size_small', pureIE, slcD, hcut]
  · obtain ⟨p, hp, rfl⟩ := List.mem_map.mp (List.mem_of_mem_drop hq)
    refine ⟨[a, b, .val (.list (fs.map tD)), e, .val (tD p), .no], [a, b, .val (.list (fs.map tD)), e, .val (tD p), .no], rfl, rfl, ?_, rfl⟩
    simp [runB, denS, den, Den.of, Den.b, initE, initN, initV, BOp.f, COp.f, Bi.f, ixD, L2.atI, cmpI, intD, modD, divD, mulI, addD, subD, powD, negD, setM, changeM, setD, L2.ixN, putMine, liftE, Tgt.bind, bindAll, setV, setO, endB, outE, callM, callS, argD, argN, ioSlot, lenD, tupleD, listD, absD, isiD, isi2, isiAny, Tp.par2, putVO, augM, augF, appM, appD, wipeE, rngA, arity, asSrc, isNil, M.stuck, isND, notND, slcB, List.lookup, size_small, size_small', tD, f]
theorem atI_end {ds : List D} {d : D} (h : ds.getLast? = some d) : L2.atI ds (-1) = some d := by
  obtain ⟨ys, rfl⟩ := List.getLast?_eq_some_iff.mp h
  unfold L2.atI L2.ixN
  have e : (-1 + ((ys.length : Int) + 1)).toNat = ys.length := by omega
  have l2 : -((ys.length : Int) + 1) ≤ -1 := by omega
  simp [e, l2]
def rowF : D → D
  | .tuple [.tuple [.int a, .int b], .int e] => .tuple [.int a, .int (e - a), .int b]
  | _ => .none
def endsL (fs : List Tr) (x : Int) : List D := (fs.drop 1).map (fun t => PyData.int t.1) ++ [.int x]
theorem zip_rows : ∀ (fs : List Tr) (x : Int), (zipD (fs.map tD) (endsL fs x)).map rowF = (rowsL fs x).map rD
  | [], x => rfl
  | [t], x => rfl
  | t :: u :: r, x => by
    have ih := zip_rows (u :: r) x
    unfold zipD endsL at ih ⊢
    simp only [List.drop_succ_cons, List.drop_zero, List.map_cons, List.cons_append, List.zip_cons_cons, rowsL] at ih ⊢
    rw [ih]
    rfl
theorem rows_c1 {a b : Slot} {fs : List Tr} {x : Int} (hl : fs.length ≤ 1000) : lcE P cf f145_rows_c1 [a, b, .val (.list (fs.map tD)), .val (.list (endsL fs x)), .no, .no] = .ok (.list ((rowsL fs x).map rD)) [a, b, .val (.list (fs.map tD)), .val (.list (endsL fs x)), .no, .no] := by
  unfold lcE f145_rows_c1
  simp only [den, Den.of]
  have hz : (zipD (fs.map tD) (endsL fs x)).length ≤ sizeLine := by
    unfold zipD
    rw [List.length_map, List.length_zip, List.length_map]
    exact Nat.le_trans (Nat.min_le_left _ _) (Nat.le_trans hl (by decide))
  rw [← zip_rows]
  refine lcM_ok (p := (zipD (fs.map tD) (endsL fs x), none)) (e1 := [a, b, .val (.list (fs.map tD)), .val (.list (endsL fs x)), .no, .no]) (e2 := [a, b, .val (.list (fs.map tD)), .val (.list (endsL fs x)), .no, .no]) ?_ hz rfl rfl (lc_map fun q hq => ?_)
  · simp [runB, denS, den, Den.of, Den.b, initE, initN, initV, BOp.f, COp.f, Bi.f, ixD, L2.atI, cmpI, intD, modD, divD, mulI, addD, subD, powD, negD, setM, changeM, setD, L2.ixN, putMine, liftE, Tgt.bind, bindAll, setV, setO, endB, outE, callM, callS, argD, argN, ioSlot, lenD, tupleD, listD, absD, isiD, isi2, isiAny, Tp.par2, putVO, augM, augF, appM, appD, wipeE, rngA, arity, asSrc, isNil, M.stuck, isND, notND, slcB, List.lookup, size_small, size_small', pureIE, asZip]
  · unfold zipD at hq
    obtain ⟨⟨u, v⟩, hm, rfl⟩ := List.mem_map.mp hq
    obtain ⟨hu, hv⟩ := List.of_mem_zip hm
    obtain ⟨p, _, rfl⟩ := List.mem_map.mp hu
    obtain ⟨e, rfl⟩ : ∃ e : Int, v = .int e := by
      unfold endsL at hv
      rcases List.mem_append.mp hv with h | h
      · obtain ⟨t, _, rfl⟩ := List.mem_map.mp h
        exact ⟨_, rfl⟩
      · rw [List.mem_singleton] at h
        exact ⟨_, h⟩
    refine ⟨[a, b, .val (.list (fs.map tD)), .val (.list (endsL fs x)), .val (tD p), .val (.int e)], [a, b, .val (.list (fs.map tD)), .val (.list (endsL fs x)), .val (tD p), .val (.int e)], rfl, rfl, ?_, rfl⟩
    simp [runB, denS, den, Den.of, Den.b, initE, initN, initV, BOp.f, COp.f, Bi.f, ixD, L2.atI, cmpI, intD, modD, divD, mulI, addD, subD, powD, negD, setM, changeM, setD, L2.ixN, putMine, liftE, Tgt.bind, bindAll, setV, setO, endB, outE, callM, callS, argD, argN, ioSlot, lenD, tupleD, listD, absD, isiD, isi2, isiAny, Tp.par2, putVO, augM, augF, appM, appD, wipeE, rngA, arity, asSrc, isNil, M.stuck, isND, notND, slcB, List.lookup, size_small, size_small', tD, rowF]
end
/-- what rows gives -/
def rowsV (w : Bool) (ts : List Tr) (x : Int) : List Rw :=
  if x = 0 then [] else if w then (match (ts.filter (keepT w x)).getLast? with | some t => [(t.1, x, t.2)] | none => []) else rowsL (ts.filter (keepT w x)) x
section
variable {H : PG} {n : Nat} (h1 : H.fns.lookup 1 = some f1_is_integer) (h15 : H.fns.lookup 15 = some f15_is_natural) (h16 : H.fns.lookup 16 = some f16_check_natural) (h118 : H.fns.lookup 118 = some f118_is_within) (h119 : H.fns.lookup 119 = some f119_are_tiers) (h120 : H.fns.lookup 120 = some f120_is_plan) (h121 : H.fns.lookup 121 = some f121_check_plan) (h145 : H.fns.lookup 145 = some f145_rows)
  (g1 : H.gl.lookup ("MOST_TIERS" : Str) = some (.int 8)) (g2 : H.gl.lookup ("MOST_AMOUNT" : Str) = some (.int 1000000000000)) (g3 : H.gl.lookup ("GREATEST" : Str) = some (.int 10000000000000000000000000000000000000000))
include h1 h15 g3 in
theorem natural_run {x : Int} (h : 0 ≤ x) (h' : x ≤ 10000000000000000000000000000000000000000) : run H (n+2) 15 [.int x] = .ok (.bool true) .none := by
  have e := int_run (n := n) h1 (i := x)
  have g3' : H.I.gl.lookup ("GREATEST" : Str) = some (.int 10000000000000000000000000000000000000000) := g3
  rw [run_at h15]
  simp [runB, denS, den, Den.of, Den.b, initE, initN, initV, BOp.f, COp.f, Bi.f, ixD, L2.atI, cmpI, intD, modD, divD, mulI, addD, subD, powD, negD, setM, changeM, setD, L2.ixN, putMine, liftE, Tgt.bind, bindAll, setV, setO, endB, outE, callM, callS, argD, argN, ioSlot, lenD, tupleD, listD, absD, isiD, isi2, isiAny, Tp.par2, putVO, augM, augF, appM, appD, wipeE, rngA, arity, asSrc, isNil, M.stuck, isND, notND, slcB, List.lookup, size_small, size_small', f15_is_natural, I_fn h1, f1_is_integer, e, g3', h, h']
include h1 h15 h16 g3 in
theorem check_natural_run {x : Int} (h : 0 ≤ x) (h' : x ≤ 10000000000000000000000000000000000000000) : run H (n+3) 16 [.int x] = .ok .none .none := by
  have e := natural_run (n := n) h1 h15 g3 h h'
  rw [run_at h16]
  simp [runB, denS, den, Den.of, Den.b, initE, initN, initV, BOp.f, COp.f, Bi.f, ixD, L2.atI, cmpI, intD, modD, divD, mulI, addD, subD, powD, negD, setM, changeM, setD, L2.ixN, putMine, liftE, Tgt.bind, bindAll, setV, setO, endB, outE, callM, callS, argD, argN, ioSlot, lenD, tupleD, listD, absD, isiD, isi2, isiAny, Tp.par2, putVO, augM, augF, appM, appD, wipeE, rngA, arity, asSrc, isNil, M.stuck, isND, notND, slcB, List.lookup, size_small, size_small', f16_check_natural, I_fn h15, f15_is_natural, e]
theorem keep_ne {k : Nat} {ts : List Tr} (hts : Tv k ts) (k1 : 1 ≤ k) {w : Bool} {x : Int} (h : 0 < x) : ts.filter (keepT w x) ≠ [] := by
  have hlen := hts.len
  cases ts with
  | nil => simp at hlen; omega
  | cons t r =>
    have := hts.head t rfl
    rw [List.filter_cons, if_pos (by unfold keepT; simp; omega)]
    simp
include h1 h15 h16 h118 h119 h120 h121 h145 g1 g2 g3 in
theorem rows_run {w : Bool} {k : Nat} {ts : List Tr} {cap : D} (hts : Tv k ts) (k1 : 1 ≤ k) (k5 : k ≤ 5) (hc : capOk cap) {x : Int} (hx : 0 ≤ x) (hx2 : x ≤ 10 ^ 30) : run H (n+6) 145 [planD w ts cap, .int x] = .ok (.list ((rowsV w ts x).map rD)) .none := by
  have e1 := check_plan_run (n := n) h1 h118 h119 h120 h121 g1 g2 (w := w) hts k1 k5 hc
  have e2 := check_natural_run (n := n + 2) h1 h15 h16 g3 hx (by omega)
  have hlen := hts.len
  have tl : ts.length ≤ 1000 := by omega
  have c3 := rows_c3 (P := H.I) (cf := run H (n+5)) (w := w) (cap := cap) (x := x) tl
  rw [run_at h145]
  by_cases h0 : x = 0
  · subst h0
    simp [runB, denS, den, Den.of, Den.b, initE, initN, initV, BOp.f, COp.f, Bi.f, ixD, L2.atI, cmpI, intD, modD, divD, mulI, addD, subD, powD, negD, setM, changeM, setD, L2.ixN, putMine, liftE, Tgt.bind, bindAll, setV, setO, endB, outE, callM, callS, argD, argN, ioSlot, lenD, tupleD, listD, absD, isiD, isi2, isiAny, Tp.par2, putVO, augM, augF, appM, appD, wipeE, rngA, arity, asSrc, isNil, M.stuck, isND, notND, slcB, List.lookup, size_small, size_small', f145_rows, I_fn h16, I_fn h121, f16_check_natural, f121_check_plan, e1, e2, eqD, eqv_int, rowsV]
  · have hne := keep_ne hts k1 (w := w) (show 0 < x by omega)
    have fl : (ts.filter (keepT w x)).length ≤ 5 := Nat.le_trans (List.length_filter_le _ _) (by omega)
    have f1 : 1 ≤ (ts.filter (keepT w x)).length := List.length_pos_iff.mpr hne
    have x0 : eqD (.int x) (.int 0) = some (.bool false) := by simp [eqD, eqv_int, h0]
    have kw := keq w
    obtain ⟨t, ht⟩ : ∃ t, (ts.filter (keepT w x)).getLast? = some t := ⟨_, List.getLast?_eq_some_getLast hne⟩
    have c2 := rows_c2 (P := H.I) (cf := run H (n+5)) (a := .val (planD w ts cap)) (b := .val (.int x)) (e := .no) (fs := ts.filter (keepT w x)) (by omega) f1
    have c1 := rows_c1 (P := H.I) (cf := run H (n+5)) (a := .val (planD w ts cap)) (b := .val (.int x)) (fs := ts.filter (keepT w x)) (x := x) (by omega)
    unfold rowsV
    rw [if_neg h0]
    generalize ts.filter (keepT w x) = fs at c3 c2 c1 fl f1 ht ⊢
    have hd : (fs.map tD).getLast? = some (tD t) := by rw [List.getLast?_map, ht]; rfl
    have ha := atI_end hd
    simp [L2.atI, L2.ixN] at ha
    have z1 : (fs.length - 1) + 1 ≤ sizeLine := Nat.le_trans (show _ ≤ 1000 by omega) (by decide)
    simp only [planD] at c1 c2 c3 e1
    cases w with
    | true =>
      rw [if_pos rfl, ht]
      simp [runB, denS, den, Den.of, Den.b, initE, initN, initV, BOp.f, COp.f, Bi.f, ixD, L2.atI, cmpI, intD, modD, divD, mulI, addD, subD, powD, negD, setM, changeM, setD, L2.ixN, putMine, liftE, Tgt.bind, bindAll, setV, setO, endB, outE, callM, callS, argD, argN, ioSlot, lenD, tupleD, listD, absD, isiD, isi2, isiAny, Tp.par2, putVO, augM, augF, appM, appD, wipeE, rngA, arity, asSrc, isNil, M.stuck, isND, notND, slcB, List.lookup, size_small, size_small', f145_rows, I_fn h16, I_fn h121, f16_check_natural, f121_check_plan, e1, e2, x0, planD, d_f145_rows_c3, c3, kw, ha, tD, rD]
      done
    | false =>
      rw [if_neg (by simp)]
      unfold endsL at c1
      simp at c1 c2 z1
      simp [runB, denS, den, Den.of, Den.b, initE, initN, initV, BOp.f, COp.f, Bi.f, ixD, L2.atI, cmpI, intD, modD, divD, mulI, addD, subD, powD, negD, setM, changeM, setD, L2.ixN, putMine, liftE, Tgt.bind, bindAll, setV, setO, endB, outE, callM, callS, argD, argN, ioSlot, lenD, tupleD, listD, absD, isiD, isi2, isiAny, Tp.par2, putVO, augM, augF, appM, appD, wipeE, rngA, arity, asSrc, isNil, M.stuck, isND, notND, slcB, List.lookup, size_small, size_small', f145_rows, I_fn h16, I_fn h121, f16_check_natural, f121_check_plan, e1, e2, x0, planD, d_f145_rows_c3, d_f145_rows_c2, d_f145_rows_c1, c3, c2, c1, kw, z1]
      done
end
end Tp
/-! K16S: the law's own rows. -/
namespace Tp
open PySem
def oneR (t : Tr) (e : Int) : List Rw := if t.1 < e then [(t.1, e - t.1, t.2)] else []
def slicesL : List Tr → Int → List Rw
  | [], _ => []
  | [t], x => oneR t x
  | t :: u :: r, x => oneR t (min x u.1) ++ slicesL (u :: r) x
theorem slices_none : ∀ {ts : List Tr} {x : Int}, (∀ t ∈ ts, x ≤ t.1) → slicesL ts x = []
  | [], x, _ => rfl
  | [t], x, h => by
    have := h t List.mem_cons_self
    simp only [slicesL, oneR]
    rw [if_neg (by omega)]
  | t :: u :: r, x, h => by
    have := h t List.mem_cons_self
    simp only [slicesL, oneR]
    rw [if_neg (by omega), slices_none fun q hq => h q (List.mem_cons_of_mem _ hq)]
    rfl
theorem filter_none {ts : List Tr} {x : Int} (h : ∀ t ∈ ts, x ≤ t.1) : ts.filter (keepT false x) = [] := by
  rw [List.filter_eq_nil_iff]
  intro t ht
  have := h t ht
  simp [keepT]
  omega
theorem rows_slices : ∀ {ts : List Tr} {x : Int}, ts.Pairwise (fun a b => a.1 < b.1) → rowsL (ts.filter (keepT false x)) x = slicesL ts x
  | [], x, _ => rfl
  | [t], x, _ => by
    by_cases h : t.1 < x
    · have : keepT false x t = true := by simp [keepT, h]
      rw [List.filter_cons, if_pos this]
      simp [rowsL, slicesL, oneR, h]
    · rw [filter_none fun q hq => by rw [List.mem_singleton] at hq; subst hq; omega]
      simp [rowsL, slicesL, oneR, h]
  | t :: u :: r, x, hp => by
    obtain ⟨a1, a2⟩ := List.pairwise_cons.mp hp
    have tu := a1 u List.mem_cons_self
    by_cases h : t.1 < x
    · have ht : keepT false x t = true := by simp [keepT, h]
      rw [List.filter_cons, if_pos ht]
      by_cases hu : u.1 < x
      · have ku : keepT false x u = true := by simp [keepT, hu]
        have ih := rows_slices (x := x) a2
        rw [List.filter_cons, if_pos ku] at ih ⊢
        simp only [rowsL, slicesL, oneR]
        rw [if_pos (by omega), show min x u.1 = u.1 by omega]
        rw [ih]
        rfl
      · have all : ∀ q ∈ u :: r, x ≤ q.1 := fun q hq => by
          rcases List.mem_cons.mp hq with e | hq
          · subst e
            omega
          · have := (List.pairwise_cons.mp a2).1 q hq
            omega
        rw [filter_none all]
        simp only [rowsL, slicesL, oneR]
        rw [if_pos (by omega), show min x u.1 = x by omega, slices_none all]
        rfl
    · have all : ∀ q ∈ t :: u :: r, x ≤ q.1 := fun q hq => by
        rcases List.mem_cons.mp hq with e | hq
        · subst e
          omega
        · have := a1 q hq
          omega
      rw [filter_none all, slices_none all]
      rfl
/-- by the places -/
def rowAt (ts : List Tr) (x : Int) (k : Nat) : List Rw := match ts[k]? with
  | some t => oneR t (match ts[k + 1]? with | some u => min x u.1 | none => x)
  | none => []
theorem rowAt_all : ∀ (ts : List Tr) (x : Int), (List.range ts.length).flatMap (rowAt ts x) = slicesL ts x
  | [], x => rfl
  | [t], x => by simp [rowAt, slicesL, List.range_succ]
  | t :: u :: r, x => by
    have ih := rowAt_all (u :: r) x
    rw [List.length_cons, List.range_succ_eq_map, List.flatMap_cons, List.flatMap_map]
    have e : (fun k => rowAt (t :: u :: r) x (k + 1)) = rowAt (u :: r) x := by
      funext k
      simp [rowAt]
    rw [show (List.range (u :: r).length).flatMap (fun a => rowAt (t :: u :: r) x (Nat.succ a)) = (List.range (u :: r).length).flatMap (rowAt (u :: r) x) from by rw [← e], ih]
    simp [rowAt, slicesL]
def sumP (l : List Rw) : Int := (l.map fun r => r.2.1).sum
def sumH (l : List Rw) : Int := (l.map fun r => r.2.1 * r.2.2).sum
end Tp
/-! K16U: the law's own rows, by its form. -/
namespace Tp
open PySem
/-- what the law's rows are -/
def tierV (w : Bool) (ts : List Tr) (x : Int) : List Rw :=
  if x = 0 then [] else if w then (match (ts.filter fun t => decide (t.1 ≤ x)).getLast? with | some t => [(t.1, x, t.2)] | none => []) else slicesL ts x
theorem tier_rows_same {k : Nat} {ts : List Tr} (hts : Tv k ts) {w : Bool} {x : Int} : rowsV w ts x = tierV w ts x := by
  unfold rowsV tierV
  cases w with
  | true =>
    have : (keepT true x) = fun t : Tr => decide (t.1 ≤ x) := by
      funext t
      unfold keepT
      by_cases h : t.1 < x
      · simp [h]
        omega
      · by_cases h2 : t.1 = x
        · simp [h2]
        · simp [h, h2]
          omega
    rw [this]
    by_cases h0 : x = 0
    · rw [if_pos h0, if_pos h0]
    · rw [if_neg h0, if_neg h0, if_pos rfl, if_pos rfl]
      try rfl
  | false =>
    rw [rows_slices hts.inc]
    by_cases h0 : x = 0 <;> simp [h0]
def foundI (pl kd cp : D) (ts : List Tr) (x : Int) (k : Nat) (e : Env) : Prop := e = [.val pl, .val (.int x), .val kd, .val (tsD ts), .val cp, .no, .own (.list (((List.range k).flatMap (rowAt ts x)).map rD)), .no, .no, .no]
theorem rowAt_len {ts : List Tr} {x : Int} : ∀ k, ((List.range k).flatMap (rowAt ts x)).length ≤ k
  | 0 => Nat.le_refl _
  | k + 1 => by
    rw [List.range_succ, List.flatMap_append, List.length_append]
    have := rowAt_len (ts := ts) (x := x) k
    have h2 : ([k].flatMap (rowAt ts x)).length ≤ 1 := by
      rw [List.flatMap_singleton]
      unfold rowAt
      cases ts[k]? with
      | none => exact Nat.zero_le _
      | some t =>
        have one : ∀ t e, (oneR t e).length ≤ 1 := fun t e => by
          unfold oneR
          split <;> simp
        exact one _ _
    omega
theorem found_step {P : PgI} {cf : Nat → List D → FRes} {pl kd cp : D} {ts : List Tr} {x : Int} {k : Nat} {e : Env} (hk : k < ts.length) (hl : ts.length ≤ 900) (h : foundI pl kd cp ts x k e) :
    ∃ e1 e2 e3, (Tgt.one 7).bind (.int k) e = some e1 ∧ denS P cf (bodyOf f146_law_tier_rows_l1) e1 = .nx e2 ∧ wipeE e2 [7, 8] = some e3 ∧ foundI pl kd cp ts x (k + 1) e3 := by
  unfold foundI at h
  subst h
  have fl := rowAt_len (ts := ts) (x := x) k
  have hr : (List.range (k + 1)).flatMap (rowAt ts x) = (List.range k).flatMap (rowAt ts x) ++ rowAt ts x k := by
    rw [List.range_succ, List.flatMap_append, List.flatMap_singleton]
  have hrow : rowAt ts x k = oneR ts[k] (match ts[k + 1]? with | some u => min x u.1 | none => x) := by
    unfold rowAt
    rw [List.getElem?_eq_getElem hk]
    try rfl
  generalize (List.range k).flatMap (rowAt ts x) = F at fl hr ⊢
  have fz : F.length < sizeLine := Nat.lt_of_le_of_lt (show _ ≤ 900 by omega) (by decide)
  unfold foundI
  rw [hr, hrow]
  by_cases hlast : k + 1 = ts.length
  · have hn : ts[k + 1]? = none := List.getElem?_eq_none (by omega)
    rw [hn]
    simp only
    have e0 : eqD (.int ((k : Int) + 1)) (.int (ts.length : Int)) = some (.bool true) := by
      simp [eqD, eqv_int]
      omega
    unfold oneR
    by_cases hg : ts[k].1 < x
    · refine ⟨[.val pl, .val (.int x), .val kd, .val (tsD ts), .val cp, .no, .own (.list (F.map rD)), .val (.int k), .no, .no], [.val pl, .val (.int x), .val kd, .val (tsD ts), .val cp, .no, .own (.list ((F ++ [(ts[k].1, x - ts[k].1, ts[k].2)]).map rD)), .val (.int k), .val (.int x), .no], [.val pl, .val (.int x), .val kd, .val (tsD ts), .val cp, .no, .own (.list ((F ++ [(ts[k].1, x - ts[k].1, ts[k].2)]).map rD)), .no, .no, .no], rfl, ?_, rfl, by rw [if_pos hg]⟩
      simp [bodyOf, f146_law_tier_rows_l1, runB, denS, den, Den.of, Den.b, initE, initN, initV, BOp.f, COp.f, Bi.f, ixD, L2.atI, cmpI, intD, modD, divD, mulI, addD, subD, powD, negD, setM, changeM, setD, L2.ixN, putMine, liftE, Tgt.bind, bindAll, setV, setO, endB, outE, callM, callS, argD, argN, ioSlot, lenD, tupleD, listD, absD, isiD, isi2, isiAny, Tp.par2, putVO, augM, augF, appM, appD, wipeE, rngA, arity, asSrc, isNil, M.stuck, isND, notND, slcB, List.lookup, size_small, size_small', tsD, tD, e0, hk, hg, rD, fz]
    · refine ⟨[.val pl, .val (.int x), .val kd, .val (tsD ts), .val cp, .no, .own (.list (F.map rD)), .val (.int k), .no, .no], [.val pl, .val (.int x), .val kd, .val (tsD ts), .val cp, .no, .own (.list (F.map rD)), .val (.int k), .val (.int x), .no], [.val pl, .val (.int x), .val kd, .val (tsD ts), .val cp, .no, .own (.list (F.map rD)), .no, .no, .no], rfl, ?_, rfl, by rw [if_neg hg, List.append_nil]⟩
      simp [bodyOf, f146_law_tier_rows_l1, runB, denS, den, Den.of, Den.b, initE, initN, initV, BOp.f, COp.f, Bi.f, ixD, L2.atI, cmpI, intD, modD, divD, mulI, addD, subD, powD, negD, setM, changeM, setD, L2.ixN, putMine, liftE, Tgt.bind, bindAll, setV, setO, endB, outE, callM, callS, argD, argN, ioSlot, lenD, tupleD, listD, absD, isiD, isi2, isiAny, Tp.par2, putVO, augM, augF, appM, appD, wipeE, rngA, arity, asSrc, isNil, M.stuck, isND, notND, slcB, List.lookup, size_small, size_small', tsD, tD, e0, hk, hg]
  · have hk1 : k + 1 < ts.length := by omega
    rw [List.getElem?_eq_getElem hk1]
    simp only
    have e0 : eqD (.int ((k : Int) + 1)) (.int (ts.length : Int)) = some (.bool false) := by
      simp [eqD, eqv_int]
      omega
    have hk1' : (k : Int) + 1 < ts.length := by omega
    have hk0 : (0 : Int) ≤ (k : Int) + 1 := by omega
    have em : minD [.int x, .int ts[k + 1].1] = some (.int (min x ts[k + 1].1)) := by
      simp only [minD]
      congr 2
      split <;> omega
    generalize hm : min x ts[k + 1].1 = m at em ⊢
    unfold oneR
    by_cases hg : ts[k].1 < m
    · refine ⟨[.val pl, .val (.int x), .val kd, .val (tsD ts), .val cp, .no, .own (.list (F.map rD)), .val (.int k), .no, .no], [.val pl, .val (.int x), .val kd, .val (tsD ts), .val cp, .no, .own (.list ((F ++ [(ts[k].1, m - ts[k].1, ts[k].2)]).map rD)), .val (.int k), .val (.int m), .no], [.val pl, .val (.int x), .val kd, .val (tsD ts), .val cp, .no, .own (.list ((F ++ [(ts[k].1, m - ts[k].1, ts[k].2)]).map rD)), .no, .no, .no], rfl, ?_, rfl, by rw [if_pos hg]⟩
      simp [bodyOf, f146_law_tier_rows_l1, runB, denS, den, Den.of, Den.b, initE, initN, initV, BOp.f, COp.f, Bi.f, ixD, L2.atI, cmpI, intD, modD, divD, mulI, addD, subD, powD, negD, setM, changeM, setD, L2.ixN, putMine, liftE, Tgt.bind, bindAll, setV, setO, endB, outE, callM, callS, argD, argN, ioSlot, lenD, tupleD, listD, absD, isiD, isi2, isiAny, Tp.par2, putVO, augM, augF, appM, appD, wipeE, rngA, arity, asSrc, isNil, M.stuck, isND, notND, slcB, List.lookup, size_small, size_small', tsD, tD, e0, hk, hg, rD, fz, em, hk1, hk1', hk0]
    · refine ⟨[.val pl, .val (.int x), .val kd, .val (tsD ts), .val cp, .no, .own (.list (F.map rD)), .val (.int k), .no, .no], [.val pl, .val (.int x), .val kd, .val (tsD ts), .val cp, .no, .own (.list (F.map rD)), .val (.int k), .val (.int m), .no], [.val pl, .val (.int x), .val kd, .val (tsD ts), .val cp, .no, .own (.list (F.map rD)), .no, .no, .no], rfl, ?_, rfl, by rw [if_neg hg, List.append_nil]⟩
      simp [bodyOf, f146_law_tier_rows_l1, runB, denS, den, Den.of, Den.b, initE, initN, initV, BOp.f, COp.f, Bi.f, ixD, L2.atI, cmpI, intD, modD, divD, mulI, addD, subD, powD, negD, setM, changeM, setD, L2.ixN, putMine, liftE, Tgt.bind, bindAll, setV, setO, endB, outE, callM, callS, argD, argN, ioSlot, lenD, tupleD, listD, absD, isiD, isi2, isiAny, Tp.par2, putVO, augM, augF, appM, appD, wipeE, rngA, arity, asSrc, isNil, M.stuck, isND, notND, slcB, List.lookup, size_small, size_small', tsD, tD, e0, hk, hg, em, hk1, hk1', hk0]
end Tp
/-! K16V: the law's own rows and hundredths, whole. -/
namespace Tp
open PySem
section
variable {P : PgI} {cf : Nat → List D → FRes}
theorem tier_c1 {a kd cp : Slot} {ts : List Tr} {x : Int} (hl : ts.length ≤ 1000) : lcE P cf f146_law_tier_rows_c1 [a, .val (.int x), kd, .val (tsD ts), cp, .no, .no, .no, .no, .no] = .ok (.list ((ts.filter fun t => decide (t.1 ≤ x)).map tD)) [a, .val (.int x), kd, .val (tsD ts), cp, .no, .no, .no, .no, .no] := by
  unfold lcE f146_law_tier_rows_c1
  simp only [den, Den.of]
  let f : D → Bool := fun d => match d with | .tuple (.int a :: _) => decide (a ≤ x) | _ => false
  have hf : ((ts.map tD).filter f).map id = (ts.filter fun t => decide (t.1 ≤ x)).map tD := by
    rw [List.map_id, List.filter_map]
    rfl
  rw [← hf]
  refine lcM_ok (p := (ts.map tD, none)) (e1 := [a, .val (.int x), kd, .val (tsD ts), cp, .no, .no, .no, .no, .no]) (e2 := [a, .val (.int x), kd, .val (tsD ts), cp, .no, .no, .no, .no, .no]) ?_ (by rw [List.length_map]; exact Nat.le_trans hl (by decide)) rfl rfl (lc_filter (f := id) fun q hq => ?_)
  · simp [runB, denS, den, Den.of, Den.b, initE, initN, initV, BOp.f, COp.f, Bi.f, ixD, L2.atI, cmpI, intD, modD, divD, mulI, addD, subD, powD, negD, setM, changeM, setD, L2.ixN, putMine, liftE, Tgt.bind, bindAll, setV, setO, endB, outE, callM, callS, argD, argN, ioSlot, lenD, tupleD, listD, absD, isiD, isi2, isiAny, Tp.par2, putVO, augM, augF, appM, appD, wipeE, rngA, arity, asSrc, isNil, M.stuck, isND, notND, slcB, List.lookup, size_small, size_small', pureIE, tsD]
  · obtain ⟨p, hp, rfl⟩ := List.mem_map.mp hq
    refine ⟨[a, .val (.int x), kd, .val (tsD ts), cp, .no, .no, .no, .no, .val (tD p)], [a, .val (.int x), kd, .val (tsD ts), cp, .no, .no, .no, .no, .val (tD p)], rfl, ?_, fun _ => ?_, fun _ => rfl, rfl⟩
    · simp [runB, denS, den, Den.of, Den.b, initE, initN, initV, BOp.f, COp.f, Bi.f, ixD, L2.atI, cmpI, intD, modD, divD, mulI, addD, subD, powD, negD, setM, changeM, setD, L2.ixN, putMine, liftE, Tgt.bind, bindAll, setV, setO, endB, outE, callM, callS, argD, argN, ioSlot, lenD, tupleD, listD, absD, isiD, isi2, isiAny, Tp.par2, putVO, augM, augF, appM, appD, wipeE, rngA, arity, asSrc, isNil, M.stuck, isND, notND, slcB, List.lookup, size_small, size_small', tD, f]
    · simp [runB, denS, den, Den.of, Den.b, initE, initN, initV, BOp.f, COp.f, Bi.f, ixD, L2.atI, cmpI, intD, modD, divD, mulI, addD, subD, powD, negD, setM, changeM, setD, L2.ixN, putMine, liftE, Tgt.bind, bindAll, setV, setO, endB, outE, callM, callS, argD, argN, ioSlot, lenD, tupleD, listD, absD, isiD, isi2, isiAny, Tp.par2, putVO, augM, augF, appM, appD, wipeE, rngA, arity, asSrc, isNil, M.stuck, isND, notND, slcB, List.lookup, size_small, size_small']
end
theorem le_ne {k : Nat} {ts : List Tr} (hts : Tv k ts) (k1 : 1 ≤ k) {x : Int} (h : 0 ≤ x) : (ts.filter fun t => decide (t.1 ≤ x)) ≠ [] := by
  have hlen := hts.len
  cases ts with
  | nil => simp at hlen; omega
  | cons t r =>
    have := hts.head t rfl
    rw [List.filter_cons, if_pos (by simp; omega)]
    simp
theorem tier_rows_run {H : PG} {n : Nat} (h146 : H.fns.lookup 146 = some f146_law_tier_rows) {w : Bool} {k : Nat} {ts : List Tr} {cap : D} (hts : Tv k ts) (k1 : 1 ≤ k) (k5 : k ≤ 5) {x : Int} (hx : 0 ≤ x) :
    run H (n+1) 146 [planD w ts cap, .int x] = .ok (.list ((tierV w ts x).map rD)) .none := by
  have hlen := hts.len
  have kw := keq w
  rw [run_at h146]
  by_cases h0 : x = 0
  · subst h0
    simp [runB, denS, den, Den.of, Den.b, initE, initN, initV, BOp.f, COp.f, Bi.f, ixD, L2.atI, cmpI, intD, modD, divD, mulI, addD, subD, powD, negD, setM, changeM, setD, L2.ixN, putMine, liftE, Tgt.bind, bindAll, setV, setO, endB, outE, callM, callS, argD, argN, ioSlot, lenD, tupleD, listD, absD, isiD, isi2, isiAny, Tp.par2, putVO, augM, augF, appM, appD, wipeE, rngA, arity, asSrc, isNil, M.stuck, isND, notND, slcB, List.lookup, size_small, size_small', f146_law_tier_rows, planD, eqD, eqv_int, tierV]
  · have x0 : eqD (.int x) (.int 0) = some (.bool false) := by simp [eqD, eqv_int, h0]
    unfold tierV
    rw [if_neg h0]
    cases w with
    | true =>
      obtain ⟨t, ht⟩ : ∃ t, (ts.filter fun t => decide (t.1 ≤ x)).getLast? = some t := ⟨_, List.getLast?_eq_some_getLast (le_ne hts k1 hx)⟩
      have hd : ((ts.filter fun t => decide (t.1 ≤ x)).map tD).getLast? = some (tD t) := by rw [List.getLast?_map, ht]; rfl
      have c1 := tier_c1 (P := H.I) (cf := run H n) (a := .val (planD true ts cap)) (kd := .val (.str (kS true))) (cp := .val cap) (x := x) (ts := ts) (by omega)
      rw [if_pos rfl, ht]
      have ha := atI_end hd
      generalize (ts.filter fun t => decide (t.1 ≤ x)) = fs at c1 ha
      simp [L2.atI, L2.ixN] at ha
      simp only [planD] at c1
      simp [runB, denS, den, Den.of, Den.b, initE, initN, initV, BOp.f, COp.f, Bi.f, ixD, L2.atI, cmpI, intD, modD, divD, mulI, addD, subD, powD, negD, setM, changeM, setD, L2.ixN, putMine, liftE, Tgt.bind, bindAll, setV, setO, endB, outE, callM, callS, argD, argN, ioSlot, lenD, tupleD, listD, absD, isiD, isi2, isiAny, Tp.par2, putVO, augM, augF, appM, appD, wipeE, rngA, arity, asSrc, isNil, M.stuck, isND, notND, slcB, List.lookup, size_small, size_small', f146_law_tier_rows, planD, x0, kw, d_f146_law_tier_rows_c1, c1, ha, tD, rD]
    | false =>
      rw [if_neg (by simp)]
      obtain ⟨eF, k1', k2⟩ := for_inv (t := .one 7) (mb := denS H.I (run H n) (bodyOf f146_law_tier_rows_l1)) (kill := [7, 8]) (I := foundI (planD false ts cap) (.str (kS false)) cap ts x) (ds := rngs 0 ts.length) (n := 0) (e := [.val (planD false ts cap), .val (.int x), .val (.str (kS false)), .val (tsD ts), .val cap, .no, .own (.list []), .no, .no, .no]) rfl fun i q e hq hi => by
        obtain ⟨hj, rfl⟩ := rngs_get hq
        rw [Nat.zero_add] at hi ⊢
        obtain ⟨e1, e2, e3, a1, a2, a3, a4⟩ := found_step (P := H.I) (cf := run H n) hj (by omega) hi
        exact ⟨e1, e2, e3, by rw [Int.zero_add]; exact a1, .inl a2, a3, a4⟩
      unfold foundI at k2
      rw [Nat.zero_add, rngs_len, rowAt_all] at k2
      subst k2
      have hL : denS H.I (run H n) f146_law_tier_rows_l1 [.val (planD false ts cap), .val (.int x), .val (.str (kS false)), .val (tsD ts), .val cap, .no, .own (.list []), .no, .no, .no] = .nx [.val (planD false ts cap), .val (.int x), .val (.str (kS false)), .val (tsD ts), .val cap, .no, .own (.list ((slicesL ts x).map rD)), .no, .no, .no] := by
        unfold f146_law_tier_rows_l1 at k1' ⊢
        simp only [denS]
        rw [forM_val (ds := rngs 0 ts.length) (e1 := [.val (planD false ts cap), .val (.int x), .val (.str (kS false)), .val (tsD ts), .val cap, .no, .own (.list []), .no, .no, .no]) (by simp [runB, denS, den, Den.of, Den.b, initE, initN, initV, BOp.f, COp.f, Bi.f, ixD, L2.atI, cmpI, intD, modD, divD, mulI, addD, subD, powD, negD, setM, changeM, setD, L2.ixN, putMine, liftE, Tgt.bind, bindAll, setV, setO, endB, outE, callM, callS, argD, argN, ioSlot, lenD, tupleD, listD, absD, isiD, isi2, isiAny, Tp.par2, putVO, augM, augF, appM, appD, wipeE, rngA, arity, asSrc, isNil, M.stuck, isND, notND, slcB, List.lookup, size_small, size_small', tsD, asRng_n (show ts.length ≤ 2 ^ 61 by omega)])]
        exact k1'
      simp only [planD] at hL
      simp [runB, denS, den, Den.of, Den.b, initE, initN, initV, BOp.f, COp.f, Bi.f, ixD, L2.atI, cmpI, intD, modD, divD, mulI, addD, subD, powD, negD, setM, changeM, setD, L2.ixN, putMine, liftE, Tgt.bind, bindAll, setV, setO, endB, outE, callM, callS, argD, argN, ioSlot, lenD, tupleD, listD, absD, isiD, isi2, isiAny, Tp.par2, putVO, augM, augF, appM, appD, wipeE, rngA, arity, asSrc, isNil, M.stuck, isND, notND, slcB, List.lookup, size_small, size_small', f146_law_tier_rows, planD, x0, kw, hL]
end Tp
/-! K16W: hundredths. -/
namespace Tp
open PySem
theorem sumP_slices : ∀ {ts : List Tr} {t : Tr} {x : Int}, (t :: ts).Pairwise (fun a b => a.1 < b.1) → t.1 ≤ x → sumP (slicesL (t :: ts) x) = x - t.1
  | [], t, x, _, h => by
    simp only [slicesL, oneR]
    split
    · simp [sumP]
    · simp [sumP]
      omega
  | u :: r, t, x, hp, h => by
    obtain ⟨a1, a2⟩ := List.pairwise_cons.mp hp
    have tu := a1 u List.mem_cons_self
    have add : ∀ a b : List Rw, sumP (a ++ b) = sumP a + sumP b := fun a b => by simp [sumP]
    simp only [slicesL]
    rw [add]
    by_cases hu : u.1 ≤ x
    · rw [sumP_slices a2 hu, show min x u.1 = u.1 by omega]
      unfold oneR
      rw [if_pos tu]
      simp [sumP]
      omega
    · rw [slices_none fun q hq => by
        rcases List.mem_cons.mp hq with e | hq
        · subst e
          omega
        · have := (List.pairwise_cons.mp a2).1 q hq
          omega]
      rw [show min x u.1 = x by omega]
      unfold oneR
      split
      · simp [sumP]
      · simp [sumP]
        omega
theorem sumP_tier {k : Nat} {ts : List Tr} (hts : Tv k ts) (k1 : 1 ≤ k) {w : Bool} {x : Int} (hx : 0 ≤ x) : sumP (tierV w ts x) = x := by
  unfold tierV
  by_cases h0 : x = 0
  · rw [if_pos h0, h0]
    rfl
  · rw [if_neg h0]
    cases w with
    | true =>
      obtain ⟨t, ht⟩ : ∃ t, (ts.filter fun t => decide (t.1 ≤ x)).getLast? = some t := ⟨_, List.getLast?_eq_some_getLast (le_ne hts k1 hx)⟩
      rw [if_pos rfl, ht]
      simp [sumP]
    | false =>
      rw [if_neg (by simp)]
      have hlen := hts.len
      cases ts with
      | nil => simp at hlen; omega
      | cons t r =>
        have t0 := hts.head t rfl
        rw [sumP_slices hts.inc (by omega), t0]
        omega
section
variable {P : PgI} {cf : Nat → List D → FRes}
theorem hund_c1 {a kd cp tt : Slot} {ts : List Tr} {x : Int} (hl : ts.length ≤ 1000) : lcE P cf f141_law_hundredths_c1 [a, .val (.int x), kd, .val (tsD ts), cp, tt, .no, .no, .no, .no] = .ok (.list ((ts.filter fun t => decide (t.1 ≤ x)).map fun t => .int t.2)) [a, .val (.int x), kd, .val (tsD ts), cp, tt, .no, .no, .no, .no] := by
  unfold lcE f141_law_hundredths_c1
  simp only [den, Den.of]
  let f : D → Bool := fun d => match d with | .tuple (.int a :: _) => decide (a ≤ x) | _ => false
  let g : D → D := fun d => match d with | .tuple [_, b] => b | d => d
  have hf : ((ts.map tD).filter f).map g = (ts.filter fun t => decide (t.1 ≤ x)).map fun t => .int t.2 := by
    rw [List.filter_map, List.map_map]
    rfl
  rw [← hf]
  refine lcM_ok (p := (ts.map tD, none)) (e1 := [a, .val (.int x), kd, .val (tsD ts), cp, tt, .no, .no, .no, .no]) (e2 := [a, .val (.int x), kd, .val (tsD ts), cp, tt, .no, .no, .no, .no]) ?_ (by rw [List.length_map]; exact Nat.le_trans hl (by decide)) rfl rfl (lc_filter (f := g) fun q hq => ?_)
  · simp [runB, denS, den, Den.of, Den.b, initE, initN, initV, BOp.f, COp.f, Bi.f, ixD, L2.atI, cmpI, intD, modD, divD, mulI, addD, subD, powD, negD, setM, changeM, setD, L2.ixN, putMine, liftE, Tgt.bind, bindAll, setV, setO, endB, outE, callM, callS, argD, argN, ioSlot, lenD, tupleD, listD, absD, isiD, isi2, isiAny, Tp.par2, putVO, augM, augF, appM, appD, wipeE, rngA, arity, asSrc, isNil, M.stuck, isND, notND, slcB, List.lookup, size_small, size_small', pureIE, tsD]
  · obtain ⟨p, hp, rfl⟩ := List.mem_map.mp hq
    refine ⟨[a, .val (.int x), kd, .val (tsD ts), cp, tt, .no, .no, .val (.int p.1), .val (.int p.2)], [a, .val (.int x), kd, .val (tsD ts), cp, tt, .no, .no, .val (.int p.1), .val (.int p.2)], rfl, ?_, fun _ => ?_, fun _ => rfl, rfl⟩
    · simp [runB, denS, den, Den.of, Den.b, initE, initN, initV, BOp.f, COp.f, Bi.f, ixD, L2.atI, cmpI, intD, modD, divD, mulI, addD, subD, powD, negD, setM, changeM, setD, L2.ixN, putMine, liftE, Tgt.bind, bindAll, setV, setO, endB, outE, callM, callS, argD, argN, ioSlot, lenD, tupleD, listD, absD, isiD, isi2, isiAny, Tp.par2, putVO, augM, augF, appM, appD, wipeE, rngA, arity, asSrc, isNil, M.stuck, isND, notND, slcB, List.lookup, size_small, size_small', tD, f]
    · simp [runB, denS, den, Den.of, Den.b, initE, initN, initV, BOp.f, COp.f, Bi.f, ixD, L2.atI, cmpI, intD, modD, divD, mulI, addD, subD, powD, negD, setM, changeM, setD, L2.ixN, putMine, liftE, Tgt.bind, bindAll, setV, setO, endB, outE, callM, callS, argD, argN, ioSlot, lenD, tupleD, listD, absD, isiD, isi2, isiAny, Tp.par2, putVO, augM, augF, appM, appD, wipeE, rngA, arity, asSrc, isNil, M.stuck, isND, notND, slcB, List.lookup, size_small, size_small', tD, g]
theorem hund_c2 {a b kd cp tt : Slot} {ts : List Tr} (hl : ts.length ≤ 1000) (h1 : 1 ≤ ts.length) : lcE P cf f141_law_hundredths_c2 [a, b, kd, .val (tsD ts), cp, tt, .no, .no, .no, .no] = .ok (.list ((ts.drop 1).map fun t => .int t.1)) [a, b, kd, .val (tsD ts), cp, tt, .no, .no, .no, .no] := by
  unfold lcE f141_law_hundredths_c2
  simp only [den, Den.of]
  have hcut : cutD (ts.map tD) (some 1) none = (ts.map tD).drop 1 := by
    have e : HT.sIx (ts.map tD).length 0 (some 1) = 1 := by
      have := HT.sIx_nat (ts.map tD).length 0 1
      rw [Nat.min_eq_left (by rw [List.length_map]; exact h1)] at this
      exact this
    unfold cutD
    rw [HT.sIx_none, e]
    exact List.take_of_length_le (by rw [List.length_drop]; exact Nat.le_refl _)
  let f : D → D := fun d => match d with | .tuple (a :: _) => a | d => d
  have hf : ((ts.map tD).drop 1).map f = (ts.drop 1).map fun t => .int t.1 := by
    rw [← List.map_drop, List.map_map]
    rfl
  rw [← hf]
  refine lcM_ok (p := ((ts.map tD).drop 1, none)) (e1 := [a, b, kd, .val (tsD ts), cp, tt, .no, .no, .no, .no]) (e2 := [a, b, kd, .val (tsD ts), cp, tt, .no, .no, .no, .no]) ?_ (by rw [List.length_drop, List.length_map]; exact Nat.le_trans (Nat.le_trans (Nat.sub_le _ _) hl) (by decide)) rfl rfl (lc_map (f := f) fun q hq => ?_)
  · simp at hcut
    simp [runB, denS, den, Den.of, Den.b, initE, initN, initV, BOp.f, COp.f, Bi.f, ixD, L2.atI, cmpI, intD, modD, divD, mulI, addD, subD, powD, negD, setM, changeM, setD, L2.ixN, putMine, liftE, Tgt.bind, bindAll, setV, setO, endB, outE, callM, callS, argD, argN, ioSlot, lenD, tupleD, listD, absD, isiD, isi2, isiAny, Tp.par2, putVO, augM, augF, appM, appD, wipeE, rngA, arity, asSrc, isNil, M.stuck, isND, notND, slcB, List.lookup, size_small, size_small', pureIE, slcD, hcut, tsD]
  · obtain ⟨p, hp, rfl⟩ := List.mem_map.mp (List.mem_of_mem_drop hq)
    refine ⟨[a, b, kd, .val (tsD ts), cp, tt, .no, .no, .val (.int p.1), .val (.int p.2)], [a, b, kd, .val (tsD ts), cp, tt, .no, .no, .val (.int p.1), .val (.int p.2)], rfl, rfl, ?_, rfl⟩
    simp [runB, denS, den, Den.of, Den.b, initE, initN, initV, BOp.f, COp.f, Bi.f, ixD, L2.atI, cmpI, intD, modD, divD, mulI, addD, subD, powD, negD, setM, changeM, setD, L2.ixN, putMine, liftE, Tgt.bind, bindAll, setV, setO, endB, outE, callM, callS, argD, argN, ioSlot, lenD, tupleD, listD, absD, isiD, isi2, isiAny, Tp.par2, putVO, augM, augF, appM, appD, wipeE, rngA, arity, asSrc, isNil, M.stuck, isND, notND, slcB, List.lookup, size_small, size_small', tD, f]
def totI (pl kd cp : D) (ts : List Tr) (x : Int) (k : Nat) (e : Env) : Prop := e = [.val pl, .val (.int x), .val kd, .val (tsD ts), .val cp, .val (.int (sumH ((List.range k).flatMap (rowAt ts x)))), .val (.list (endsL ts x)), .no, .no, .no]
theorem ends_get {ts : List Tr} {x : Int} {k : Nat} (hk : k < ts.length) : (endsL ts x)[k]? = some (.int (match ts[k + 1]? with | some u => u.1 | none => x)) := by
  unfold endsL
  by_cases h : k + 1 < ts.length
  · rw [List.getElem?_append_left (by simp; omega), List.getElem?_map, List.getElem?_drop, Nat.add_comm 1 k, List.getElem?_eq_getElem h]
    rfl
  · rw [List.getElem?_append_right (by simp; omega), List.getElem?_eq_none (by omega : ts.length ≤ k + 1)]
    have : k - ((ts.drop 1).map fun t => PyData.int t.1).length = 0 := by simp; omega
    rw [this]
    rfl
end
end Tp
/-! K16X: hundredths, whole. -/
namespace Tp
open PySem
theorem sumH_app (a b : List Rw) : sumH (a ++ b) = sumH a + sumH b := by simp [sumH]
theorem tot_step {P : PgI} {cf : Nat → List D → FRes} {pl kd cp : D} {ts : List Tr} {x : Int} {n k : Nat} {e : Env} (hts : Tv n ts) (n5 : n ≤ 5) (hx : 0 ≤ x) (hx2 : x ≤ 10 ^ 30) (hk : k < ts.length) (h : totI pl kd cp ts x k e) :
    ∃ e1 e2 e3, (Tgt.one 7).bind (.int k) e = some e1 ∧ denS P cf (bodyOf f141_law_hundredths_l1) e1 = .nx e2 ∧ wipeE e2 [7] = some e3 ∧ totI pl kd cp ts x (k + 1) e3 := by
  unfold totI at h
  subst h
  have he := ends_get (x := x) hk
  have hr : sumH ((List.range (k + 1)).flatMap (rowAt ts x)) = sumH ((List.range k).flatMap (rowAt ts x)) + sumH (rowAt ts x k) := by
    rw [List.range_succ, List.flatMap_append, List.flatMap_singleton, sumH_app]
  have hrow : rowAt ts x k = oneR ts[k] (match ts[k + 1]? with | some u => min x u.1 | none => x) := by
    unfold rowAt
    rw [List.getElem?_eq_getElem hk]
    try rfl
  have ht := List.getElem_mem hk
  have t0 := hts.lo _ ht
  have t1 := hts.hi _ ht
  have t2 := hts.pc _ ht
  obtain ⟨en, he, hrow, hup2, en0, en1⟩ : ∃ en : Int, (endsL ts x)[k]? = some (.int en) ∧ rowAt ts x k = oneR ts[k] (min en x) ∧ (ts[k].1 < x → ts[k].1 < min en x) ∧ 0 ≤ en ∧ en ≤ 10 ^ 31 := by
    by_cases h1 : k + 1 < ts.length
    · have e1 := List.getElem?_eq_getElem h1
      have m1 := List.getElem_mem h1
      have u0 := hts.lo _ m1
      have u1 := hts.hi _ m1
      have lt := List.pairwise_iff_getElem.mp hts.inc k (k + 1) hk h1 (by omega)
      refine ⟨ts[k + 1].1, ?_, ?_, fun q => by omega, u0, by omega⟩
      · rw [e1] at he
        exact he
      · rw [hrow, e1]
        show oneR ts[k] (min x ts[k + 1].1) = _
        rw [show min x ts[k + 1].1 = min ts[k + 1].1 x by omega]
    · have e1 : ts[k + 1]? = none := List.getElem?_eq_none (by omega)
      refine ⟨x, ?_, ?_, fun q => by omega, hx, by omega⟩
      · rw [e1] at he
        exact he
      · rw [hrow, e1]
        show oneR ts[k] x = _
        rw [show min x x = x by omega]
  have hlen : k < (endsL ts x).length := (List.getElem?_eq_some_iff.mp he).1
  unfold totI
  rw [hr, hrow]
  generalize sumH ((List.range k).flatMap (rowAt ts x)) = S
  generalize endsL ts x = es at he hlen ⊢
  have em : minD [.int en, .int x] = some (.int (min en x)) := by
    simp only [minD]
    congr 2
    split <;> omega
  by_cases hg : ts[k].1 < x
  · have g2 := hup2 hg
    have s1 : sm ts[k].2 = true := sm_64 (by omega) (by omega)
    have s2 : sm (min en x - ts[k].1) = true := sm_of (Nat.lt_of_le_of_lt (show _ ≤ 10 ^ 41 by omega) (by decide))
    refine ⟨[.val pl, .val (.int x), .val kd, .val (tsD ts), .val cp, .val (.int S), .val (.list es), .val (.int k), .no, .no], [.val pl, .val (.int x), .val kd, .val (tsD ts), .val cp, .val (.int (S + ts[k].2 * (min en x - ts[k].1))), .val (.list es), .val (.int k), .no, .no], [.val pl, .val (.int x), .val kd, .val (tsD ts), .val cp, .val (.int (S + ts[k].2 * (min en x - ts[k].1))), .val (.list es), .no, .no, .no], rfl, ?_, rfl, ?_⟩
    · have hge : es[k] = .int en := by
        have := List.getElem?_eq_getElem hlen
        rw [this] at he
        exact Option.some.inj he
      simp [bodyOf, f141_law_hundredths_l1, runB, denS, den, Den.of, Den.b, initE, initN, initV, BOp.f, COp.f, Bi.f, ixD, L2.atI, cmpI, intD, modD, divD, mulI, addD, subD, powD, negD, setM, changeM, setD, L2.ixN, putMine, liftE, Tgt.bind, bindAll, setV, setO, endB, outE, callM, callS, argD, argN, ioSlot, lenD, tupleD, listD, absD, isiD, isi2, isiAny, Tp.par2, putVO, augM, augF, appM, appD, wipeE, rngA, arity, asSrc, isNil, M.stuck, isND, notND, slcB, List.lookup, size_small, size_small', tsD, tD, hk, hg, hge, hlen, em, s1, s2]
    · unfold oneR
      rw [if_pos g2]
      simp [sumH, Int.mul_comm]
  · refine ⟨[.val pl, .val (.int x), .val kd, .val (tsD ts), .val cp, .val (.int S), .val (.list es), .val (.int k), .no, .no], [.val pl, .val (.int x), .val kd, .val (tsD ts), .val cp, .val (.int S), .val (.list es), .val (.int k), .no, .no], [.val pl, .val (.int x), .val kd, .val (tsD ts), .val cp, .val (.int S), .val (.list es), .no, .no, .no], rfl, ?_, rfl, ?_⟩
    · simp [bodyOf, f141_law_hundredths_l1, runB, denS, den, Den.of, Den.b, initE, initN, initV, BOp.f, COp.f, Bi.f, ixD, L2.atI, cmpI, intD, modD, divD, mulI, addD, subD, powD, negD, setM, changeM, setD, L2.ixN, putMine, liftE, Tgt.bind, bindAll, setV, setO, endB, outE, callM, callS, argD, argN, ioSlot, lenD, tupleD, listD, absD, isiD, isi2, isiAny, Tp.par2, putVO, augM, augF, appM, appD, wipeE, rngA, arity, asSrc, isNil, M.stuck, isND, notND, slcB, List.lookup, size_small, size_small', tsD, tD, hk, hg]
    · unfold oneR
      rw [if_neg (by omega)]
      simp [sumH]
theorem hund_run {H : PG} {n : Nat} (h141 : H.fns.lookup 141 = some f141_law_hundredths) {w : Bool} {k : Nat} {ts : List Tr} (hts : Tv k ts) (k1 : 1 ≤ k) (k5 : k ≤ 5) {x : Int} (hx : 0 ≤ x) (hx2 : x ≤ 10 ^ 30) :
    run H (n+1) 141 [planD w ts .none, .int x] = .ok (.int (sumH (tierV w ts x))) .none := by
  have hlen := hts.len
  have kw := keq w
  rw [run_at h141]
  cases w with
  | true =>
    obtain ⟨t, ht⟩ : ∃ t, (ts.filter fun t => decide (t.1 ≤ x)).getLast? = some t := ⟨_, List.getLast?_eq_some_getLast (le_ne hts k1 hx)⟩
    have tm := (List.mem_filter.mp (List.mem_of_getLast? ht)).1
    have t2 := hts.pc t tm
    have hd : ((ts.filter fun t => decide (t.1 ≤ x)).map fun t => PyData.int t.2).getLast? = some (.int t.2) := by rw [List.getLast?_map, ht]; rfl
    have c1 := hund_c1 (P := H.I) (cf := run H n) (a := .val (planD true ts .none)) (kd := .val (.str (kS true))) (cp := .val .none) (tt := .val (.int 0)) (x := x) (ts := ts) (by omega)
    have ha := atI_end hd
    have s1 : sm x = true := sm_of (Nat.lt_of_le_of_lt (show _ ≤ 10 ^ 41 by omega) (by decide))
    have s2 : sm t.2 = true := sm_64 (by omega) (by omega)
    have res : sumH (tierV true ts x) = x * t.2 := by
      unfold tierV
      by_cases h0 : x = 0
      · rw [if_pos h0, h0]
        simp [sumH]
      · rw [if_neg h0, if_pos rfl, ht]
        simp [sumH]
    rw [res]
    generalize (ts.filter fun t => decide (t.1 ≤ x)) = fs at c1 ha
    simp [L2.atI, L2.ixN] at ha
    simp only [planD] at c1
    simp [runB, denS, den, Den.of, Den.b, initE, initN, initV, BOp.f, COp.f, Bi.f, ixD, L2.atI, cmpI, intD, modD, divD, mulI, addD, subD, powD, negD, setM, changeM, setD, L2.ixN, putMine, liftE, Tgt.bind, bindAll, setV, setO, endB, outE, callM, callS, argD, argN, ioSlot, lenD, tupleD, listD, absD, isiD, isi2, isiAny, Tp.par2, putVO, augM, augF, appM, appD, wipeE, rngA, arity, asSrc, isNil, M.stuck, isND, notND, slcB, List.lookup, size_small, size_small', f141_law_hundredths, planD, kw, d_f141_law_hundredths_c1, c1, ha, s1, s2]
  | false =>
    have res : sumH (tierV false ts x) = sumH (slicesL ts x) := by
      unfold tierV
      by_cases h0 : x = 0
      · rw [if_pos h0, h0, slices_none fun t ht => hts.lo t ht]
      · rw [if_neg h0, if_neg (by simp)]
    rw [res]
    obtain ⟨eF, k1', k2⟩ := for_inv (t := .one 7) (mb := denS H.I (run H n) (bodyOf f141_law_hundredths_l1)) (kill := [7]) (I := totI (planD false ts .none) (.str (kS false)) .none ts x) (ds := rngs 0 ts.length) (n := 0) (e := [.val (planD false ts .none), .val (.int x), .val (.str (kS false)), .val (tsD ts), .val .none, .val (.int 0), .val (.list (endsL ts x)), .no, .no, .no]) rfl fun i q e hq hi => by
      obtain ⟨hj, rfl⟩ := rngs_get hq
      rw [Nat.zero_add] at hi ⊢
      obtain ⟨e1, e2, e3, a1, a2, a3, a4⟩ := tot_step (P := H.I) (cf := run H n) hts k5 hx hx2 hj hi
      exact ⟨e1, e2, e3, by rw [Int.zero_add]; exact a1, .inl a2, a3, a4⟩
    unfold totI at k2
    rw [Nat.zero_add, rngs_len, rowAt_all] at k2
    subst k2
    have c2 := hund_c2 (P := H.I) (cf := run H n) (a := .val (planD false ts .none)) (b := .val (.int x)) (kd := .val (.str (kS false))) (cp := .val .none) (tt := .val (.int 0)) (ts := ts) (by omega) (by omega)
    have hL : denS H.I (run H n) f141_law_hundredths_l1 [.val (planD false ts .none), .val (.int x), .val (.str (kS false)), .val (tsD ts), .val .none, .val (.int 0), .val (.list (endsL ts x)), .no, .no, .no] = .nx [.val (planD false ts .none), .val (.int x), .val (.str (kS false)), .val (tsD ts), .val .none, .val (.int (sumH (slicesL ts x))), .val (.list (endsL ts x)), .no, .no, .no] := by
      unfold f141_law_hundredths_l1 at k1' ⊢
      simp only [denS]
      rw [forM_val (ds := rngs 0 ts.length) (e1 := [.val (planD false ts .none), .val (.int x), .val (.str (kS false)), .val (tsD ts), .val .none, .val (.int 0), .val (.list (endsL ts x)), .no, .no, .no]) (by simp [runB, denS, den, Den.of, Den.b, initE, initN, initV, BOp.f, COp.f, Bi.f, ixD, L2.atI, cmpI, intD, modD, divD, mulI, addD, subD, powD, negD, setM, changeM, setD, L2.ixN, putMine, liftE, Tgt.bind, bindAll, setV, setO, endB, outE, callM, callS, argD, argN, ioSlot, lenD, tupleD, listD, absD, isiD, isi2, isiAny, Tp.par2, putVO, augM, augF, appM, appD, wipeE, rngA, arity, asSrc, isNil, M.stuck, isND, notND, slcB, List.lookup, size_small, size_small', tsD, asRng_n (show ts.length ≤ 2 ^ 61 by omega)])]
      exact k1'
    have z1 : (ts.length - 1) + 1 ≤ sizeLine := Nat.le_trans (show _ ≤ 1000 by omega) (by decide)
    unfold endsL at hL
    simp only [planD] at hL c2
    simp at c2 hL z1
    simp [runB, denS, den, Den.of, Den.b, initE, initN, initV, BOp.f, COp.f, Bi.f, ixD, L2.atI, cmpI, intD, modD, divD, mulI, addD, subD, powD, negD, setM, changeM, setD, L2.ixN, putMine, liftE, Tgt.bind, bindAll, setV, setO, endB, outE, callM, callS, argD, argN, ioSlot, lenD, tupleD, listD, absD, isiD, isi2, isiAny, Tp.par2, putVO, augM, augF, appM, appD, wipeE, rngA, arity, asSrc, isNil, M.stuck, isND, notND, slcB, List.lookup, size_small, size_small', f141_law_hundredths, planD, kw, d_f141_law_hundredths_c2, c2, z1, hL]
end Tp
/-! K16Y: the rows' bounds. -/
namespace Tp
open PySem
def okR (x : Int) (r : Rw) : Prop := 0 ≤ r.2.1 ∧ r.2.1 ≤ x ∧ 0 ≤ r.2.2 ∧ r.2.2 ≤ 100
theorem one_ok {t : Tr} {e x : Int} (h0 : 0 ≤ t.1) (hp : 0 ≤ t.2 ∧ t.2 ≤ 100) (he : e ≤ x) : ∀ r ∈ oneR t e, okR x r := by
  intro r hr
  unfold oneR at hr
  split at hr
  · rw [List.mem_singleton] at hr
    subst hr
    exact ⟨by show 0 ≤ e - t.1; omega, by show e - t.1 ≤ x; omega, hp.1, hp.2⟩
  · cases hr
theorem slices_ok : ∀ {ts : List Tr} {x : Int}, (∀ t ∈ ts, 0 ≤ t.1 ∧ 0 ≤ t.2 ∧ t.2 ≤ 100) → ∀ r ∈ slicesL ts x, okR x r
  | [], x, _, r, hr => by cases hr
  | [t], x, h, r, hr => by
    have := h t List.mem_cons_self
    exact one_ok this.1 this.2 (Int.le_refl x) r hr
  | t :: u :: l, x, h, r, hr => by
    have := h t List.mem_cons_self
    simp only [slicesL] at hr
    rcases List.mem_append.mp hr with hr | hr
    · exact one_ok this.1 this.2 (by omega) r hr
    · exact slices_ok (fun q hq => h q (List.mem_cons_of_mem _ hq)) r hr
theorem one_len (t : Tr) (e : Int) : (oneR t e).length ≤ 1 := by
  unfold oneR
  split <;> simp
theorem slices_len : ∀ (ts : List Tr) (x : Int), (slicesL ts x).length ≤ ts.length
  | [], x => Nat.le_refl _
  | [t], x => one_len t x
  | t :: u :: l, x => by
    have := slices_len (u :: l) x
    have h1 := one_len t (min x u.1)
    simp only [slicesL, List.length_append, List.length_cons] at this ⊢
    omega
theorem tier_ok {k : Nat} {ts : List Tr} (hts : Tv k ts) {w : Bool} {x : Int} (hx : 0 ≤ x) : ∀ r ∈ tierV w ts x, okR x r := by
  unfold tierV
  intro r hr
  split at hr
  · cases hr
  · split at hr
    · cases hq : (ts.filter fun t => decide (t.1 ≤ x)).getLast? with
      | none => rw [hq] at hr; cases hr
      | some t =>
        rw [hq] at hr
        rw [List.mem_singleton] at hr
        subst hr
        have tm := (List.mem_filter.mp (List.mem_of_getLast? hq)).1
        have := hts.pc t tm
        exact ⟨hx, Int.le_refl x, this.1, this.2⟩
    · exact slices_ok (fun t ht => ⟨hts.lo t ht, hts.pc t ht⟩) r hr
theorem tier_len {k : Nat} {ts : List Tr} (hts : Tv k ts) (k1 : 1 ≤ k) {w : Bool} {x : Int} : (tierV w ts x).length ≤ k := by
  have hlen := hts.len
  unfold tierV
  split
  · exact Nat.zero_le _
  · split
    · split
      · exact k1
      · exact Nat.zero_le _
    · have := slices_len ts x
      omega
theorem gd_rows {R : List Rw} (h : R.length ≤ 1000) : gd 2 (.list (R.map rD)) = true := by
  simp only [gd, Bool.and_eq_true, decide_eq_true_eq, List.length_map, List.all_eq_true]
  refine ⟨h, fun d hd => ?_⟩
  obtain ⟨r, _, rfl⟩ := List.mem_map.mp hd
  rfl
theorem cut_init {ds : List D} {d : D} : cutD (ds ++ [d]) none (some (-1)) = ds := by
  have e0 : ((-1 : Int) + ((ds ++ [d]).length : Nat)).toNat = ds.length := by
    rw [List.length_append, List.length_singleton]
    omega
  have e1 : HT.sIx (ds ++ [d]).length (ds ++ [d]).length (some (-1)) = ds.length := by
    unfold HT.sIx
    simp only
    rw [if_pos (by decide), e0]
  unfold cutD
  rw [HT.sIx_none, e1]
  simp
end Tp
namespace Tp
open PySem PySem.Spec PyProof.Rows L2
def G : PG := ⟨[(1, f1_is_integer), (15, f15_is_natural), (16, f16_check_natural), (118, f118_is_within), (119, f119_are_tiers), (120, f120_is_plan), (121, f121_check_plan), (145, f145_rows), (4, f4_law_source), (5, f5_law_draw), (6, f6_law_choice), (7, f7_law_equal), (124, f124_law_tiers), (125, f125_law_plan), (141, f141_law_hundredths), (146, f146_law_tier_rows)],
  [("GREATEST", (.int 10000000000000000000000000000000000000000)), ("MOST_TIERS", (.int 8)), ("MOST_AMOUNT", (.int 1000000000000))]⟩
abbrev top (i : Nat) : Stmt := PySem.Challenge.pw_tierpay_k16_rows_of_what_is_paid.main.body.getD i (.Pass ⟨0, 0, 0, 0⟩)
theorem c_f1_is_integer : chk G.I f1_is_integer (top 6) = true := by decide +kernel
theorem c_f15_is_natural : chk G.I f15_is_natural (top 7) = true := by decide +kernel
theorem c_f16_check_natural : chk G.I f16_check_natural (top 8) = true := by decide +kernel
theorem c_f118_is_within : chk G.I f118_is_within (top 12) = true := by decide +kernel
theorem c_f119_are_tiers : chk G.I f119_are_tiers (top 13) = true := by decide +kernel
theorem c_f120_is_plan : chk G.I f120_is_plan (top 14) = true := by decide +kernel
theorem c_f121_check_plan : chk G.I f121_check_plan (top 15) = true := by decide +kernel
theorem c_f145_rows : chk G.I f145_rows (top 16) = true := by decide +kernel
theorem c_f4_law_source : chk G.I f4_law_source (top 18) = true := by decide +kernel
theorem c_f5_law_draw : chk G.I f5_law_draw (top 19) = true := by decide +kernel
theorem c_f6_law_choice : chk G.I f6_law_choice (top 20) = true := by decide +kernel
theorem c_f7_law_equal : chk G.I f7_law_equal (top 21) = true := by decide +kernel
theorem c_f124_law_tiers : chk G.I f124_law_tiers (top 22) = true := by decide +kernel
theorem c_f125_law_plan : chk G.I f125_law_plan (top 23) = true := by decide +kernel
theorem c_f141_law_hundredths : chk G.I f141_law_hundredths (top 24) = true := by decide +kernel
theorem c_f146_law_tier_rows : chk G.I f146_law_tier_rows (top 25) = true := by decide +kernel
theorem c_f147_law : chk G.I f147_law (top 26) = true := by decide +kernel
theorem b_f1_is_integer (kV doc pm : Value) (an : Option Addr) (cdv ct : Value) (us : List Value) (hl : us.length = f1_is_integer.ps.length) : bindArgs (PySem.W.fnOf f1_is_integer.name f1_is_integer.name (defArgs (top 6)) (defBody (top 6)) (defScope (top 6)) .none kV doc pm an cdv ct) ⟨us, []⟩ = pure (f1_is_integer.ps.zip us) :=
  match us, hl with | [_], _ => rfl
theorem b_f15_is_natural (kV doc pm : Value) (an : Option Addr) (cdv ct : Value) (us : List Value) (hl : us.length = f15_is_natural.ps.length) : bindArgs (PySem.W.fnOf f15_is_natural.name f15_is_natural.name (defArgs (top 7)) (defBody (top 7)) (defScope (top 7)) .none kV doc pm an cdv ct) ⟨us, []⟩ = pure (f15_is_natural.ps.zip us) :=
  match us, hl with | [_], _ => rfl
theorem b_f16_check_natural (kV doc pm : Value) (an : Option Addr) (cdv ct : Value) (us : List Value) (hl : us.length = f16_check_natural.ps.length) : bindArgs (PySem.W.fnOf f16_check_natural.name f16_check_natural.name (defArgs (top 8)) (defBody (top 8)) (defScope (top 8)) .none kV doc pm an cdv ct) ⟨us, []⟩ = pure (f16_check_natural.ps.zip us) :=
  match us, hl with | [_], _ => rfl
theorem b_f118_is_within (kV doc pm : Value) (an : Option Addr) (cdv ct : Value) (us : List Value) (hl : us.length = f118_is_within.ps.length) : bindArgs (PySem.W.fnOf f118_is_within.name f118_is_within.name (defArgs (top 12)) (defBody (top 12)) (defScope (top 12)) .none kV doc pm an cdv ct) ⟨us, []⟩ = pure (f118_is_within.ps.zip us) :=
  match us, hl with | [_, _, _], _ => rfl
theorem b_f119_are_tiers (kV doc pm : Value) (an : Option Addr) (cdv ct : Value) (us : List Value) (hl : us.length = f119_are_tiers.ps.length) : bindArgs (PySem.W.fnOf f119_are_tiers.name f119_are_tiers.name (defArgs (top 13)) (defBody (top 13)) (defScope (top 13)) .none kV doc pm an cdv ct) ⟨us, []⟩ = pure (f119_are_tiers.ps.zip us) :=
  match us, hl with | [_], _ => rfl
theorem b_f120_is_plan (kV doc pm : Value) (an : Option Addr) (cdv ct : Value) (us : List Value) (hl : us.length = f120_is_plan.ps.length) : bindArgs (PySem.W.fnOf f120_is_plan.name f120_is_plan.name (defArgs (top 14)) (defBody (top 14)) (defScope (top 14)) .none kV doc pm an cdv ct) ⟨us, []⟩ = pure (f120_is_plan.ps.zip us) :=
  match us, hl with | [_], _ => rfl
theorem b_f121_check_plan (kV doc pm : Value) (an : Option Addr) (cdv ct : Value) (us : List Value) (hl : us.length = f121_check_plan.ps.length) : bindArgs (PySem.W.fnOf f121_check_plan.name f121_check_plan.name (defArgs (top 15)) (defBody (top 15)) (defScope (top 15)) .none kV doc pm an cdv ct) ⟨us, []⟩ = pure (f121_check_plan.ps.zip us) :=
  match us, hl with | [_], _ => rfl
theorem b_f145_rows (kV doc pm : Value) (an : Option Addr) (cdv ct : Value) (us : List Value) (hl : us.length = f145_rows.ps.length) : bindArgs (PySem.W.fnOf f145_rows.name f145_rows.name (defArgs (top 16)) (defBody (top 16)) (defScope (top 16)) .none kV doc pm an cdv ct) ⟨us, []⟩ = pure (f145_rows.ps.zip us) :=
  match us, hl with | [_, _], _ => rfl
theorem b_f4_law_source (kV doc pm : Value) (an : Option Addr) (cdv ct : Value) (us : List Value) (hl : us.length = f4_law_source.ps.length) : bindArgs (PySem.W.fnOf f4_law_source.name f4_law_source.name (defArgs (top 18)) (defBody (top 18)) (defScope (top 18)) .none kV doc pm an cdv ct) ⟨us, []⟩ = pure (f4_law_source.ps.zip us) :=
  match us, hl with | [_, _], _ => rfl
theorem b_f5_law_draw (kV doc pm : Value) (an : Option Addr) (cdv ct : Value) (us : List Value) (hl : us.length = f5_law_draw.ps.length) : bindArgs (PySem.W.fnOf f5_law_draw.name f5_law_draw.name (defArgs (top 19)) (defBody (top 19)) (defScope (top 19)) .none kV doc pm an cdv ct) ⟨us, []⟩ = pure (f5_law_draw.ps.zip us) :=
  match us, hl with | [_, _], _ => rfl
theorem b_f6_law_choice (kV doc pm : Value) (an : Option Addr) (cdv ct : Value) (us : List Value) (hl : us.length = f6_law_choice.ps.length) : bindArgs (PySem.W.fnOf f6_law_choice.name f6_law_choice.name (defArgs (top 20)) (defBody (top 20)) (defScope (top 20)) .none kV doc pm an cdv ct) ⟨us, []⟩ = pure (f6_law_choice.ps.zip us) :=
  match us, hl with | [_, _], _ => rfl
theorem b_f7_law_equal (kV doc pm : Value) (an : Option Addr) (cdv ct : Value) (us : List Value) (hl : us.length = f7_law_equal.ps.length) : bindArgs (PySem.W.fnOf f7_law_equal.name f7_law_equal.name (defArgs (top 21)) (defBody (top 21)) (defScope (top 21)) .none kV doc pm an cdv ct) ⟨us, []⟩ = pure (f7_law_equal.ps.zip us) :=
  match us, hl with | [_, _], _ => rfl
theorem b_f124_law_tiers (kV doc pm : Value) (an : Option Addr) (cdv ct : Value) (us : List Value) (hl : us.length = f124_law_tiers.ps.length) : bindArgs (PySem.W.fnOf f124_law_tiers.name f124_law_tiers.name (defArgs (top 22)) (defBody (top 22)) (defScope (top 22)) .none kV doc pm an cdv ct) ⟨us, []⟩ = pure (f124_law_tiers.ps.zip us) :=
  match us, hl with | [_], _ => rfl
theorem b_f125_law_plan (kV doc pm : Value) (an : Option Addr) (cdv ct : Value) (us : List Value) (hl : us.length = f125_law_plan.ps.length) : bindArgs (PySem.W.fnOf f125_law_plan.name f125_law_plan.name (defArgs (top 23)) (defBody (top 23)) (defScope (top 23)) .none kV doc pm an cdv ct) ⟨us, []⟩ = pure (f125_law_plan.ps.zip us) :=
  match us, hl with | [_], _ => rfl
theorem b_f141_law_hundredths (kV doc pm : Value) (an : Option Addr) (cdv ct : Value) (us : List Value) (hl : us.length = f141_law_hundredths.ps.length) : bindArgs (PySem.W.fnOf f141_law_hundredths.name f141_law_hundredths.name (defArgs (top 24)) (defBody (top 24)) (defScope (top 24)) .none kV doc pm an cdv ct) ⟨us, []⟩ = pure (f141_law_hundredths.ps.zip us) :=
  match us, hl with | [_, _], _ => rfl
theorem b_f146_law_tier_rows (kV doc pm : Value) (an : Option Addr) (cdv ct : Value) (us : List Value) (hl : us.length = f146_law_tier_rows.ps.length) : bindArgs (PySem.W.fnOf f146_law_tier_rows.name f146_law_tier_rows.name (defArgs (top 25)) (defBody (top 25)) (defScope (top 25)) .none kV doc pm an cdv ct) ⟨us, []⟩ = pure (f146_law_tier_rows.ps.zip us) :=
  match us, hl with | [_, _], _ => rfl
theorem b_f147_law (kV doc pm : Value) (an : Option Addr) (cdv ct : Value) (us : List Value) (hl : us.length = f147_law.ps.length) : bindArgs (PySem.W.fnOf f147_law.name f147_law.name (defArgs (top 26)) (defBody (top 26)) (defScope (top 26)) .none kV doc pm an cdv ct) ⟨us, []⟩ = pure (f147_law.ps.zip us) :=
  match us, hl with | [_], _ => rfl
def fa : List He.Fa := faOf G "law" ++ [He.Fa.int "GREATEST" (10000000000000000000000000000000000000000), He.Fa.int "MOST_TIERS" (8), He.Fa.int "MOST_AMOUNT" (1000000000000)]
def fn : List He.DefD := [defOf "is_integer" (top 6), defOf "is_natural" (top 7), defOf "check_natural" (top 8), defOf "is_within" (top 12), defOf "are_tiers" (top 13), defOf "is_plan" (top 14), defOf "check_plan" (top 15), defOf "rows" (top 16), defOf "_law_source" (top 18), defOf "_law_draw" (top 19), defOf "_law_choice" (top 20), defOf "_law_equal" (top 21), defOf "_law_tiers" (top 22), defOf "_law_plan" (top 23), defOf "_law_hundredths" (top 24), defOf "_law_tier_rows" (top 25), defOf "law" (top 26)]
def loose0 : List PySem.Str := ["PayError", "InvalidNumber", "InvalidPlan", "GREATEST", "is_integer", "is_natural", "check_natural", "MOST_TIERS", "MOST_AMOUNT", "is_within", "are_tiers", "is_plan", "check_plan", "rows", "_law_source", "_law_draw", "_law_choice", "_law_equal", "_law_tiers", "_law_plan", "_law_hundredths", "_law_tier_rows"]
abbrev loose : List PySem.Str := loose0
abbrev R : PySem.W.OpenRow := PySem.W.OpenLaw.row PySem.Challenge.rw_tierpay_k16_rows_of_what_is_paid
abbrev hk : PySem.W.Hook := He.hookD 4 fa fn
def ob (s : PySem.W.SharedT) : He.AlD := He.obsDG 4 fa fn (HandSHeadRun.getT s)
theorem ob_eq (s : PySem.W.SharedT) : ob s = hk.obs s.abs := He.obsDG_eq (HandSHeadRun.getT_eq s)
theorem runs (w : World) : HandSHeadRun.RunEq R (PySem.W.view R.prog [26]) hk ob 4000 loose w := by
  intro os
  kernel_rfl
theorem glo_in (g : Nat) (fd : FD) (h : (g, fd) ∈ G.fns) : He.Fa.glo fd.name ∈ fa := by
  unfold fa
  exact List.mem_append_left _ (List.mem_cons_of_mem _ (List.mem_append_left _ (List.mem_map.mpr ⟨(g, fd), h, rfl⟩)))
theorem free_in (x : Str) (h : x ∈ bltNames) : He.Fa.free x ∈ fa := by
  unfold fa
  exact List.mem_append_left _ (List.mem_cons_of_mem _ (List.mem_append_right _ (List.mem_map.mpr ⟨x, h, rfl⟩)))
theorem text_ok {K : PySem.W.Frag} {h : Heap} {mg : Str → Option Value} (X : K.In h) (N : h.Ns mainGlobals mg) (c : He.SaysD fa fn K) : TextOk G K mg where
  fns := fun g fd q => by
    have m := lookup_mem q
    have gi := glo_in g fd m
    have m' : (g, fd) ∈ [(1, f1_is_integer), (15, f15_is_natural), (16, f16_check_natural), (118, f118_is_within), (119, f119_are_tiers), (120, f120_is_plan), (121, f121_check_plan), (145, f145_rows), (4, f4_law_source), (5, f5_law_draw), (6, f6_law_choice), (7, f7_law_equal), (124, f124_law_tiers), (125, f125_law_plan), (141, f141_law_hundredths), (146, f146_law_tier_rows)] := m
    simp only [List.mem_cons, List.not_mem_nil, or_false, Prod.mk.injEq] at m'
    rcases m' with ⟨rfl, rfl⟩ | ⟨rfl, rfl⟩ | ⟨rfl, rfl⟩ | ⟨rfl, rfl⟩ | ⟨rfl, rfl⟩ | ⟨rfl, rfl⟩ | ⟨rfl, rfl⟩ | ⟨rfl, rfl⟩ | ⟨rfl, rfl⟩ | ⟨rfl, rfl⟩ | ⟨rfl, rfl⟩ | ⟨rfl, rfl⟩ | ⟨rfl, rfl⟩ | ⟨rfl, rfl⟩ | ⟨rfl, rfl⟩ | ⟨rfl, rfl⟩
    · exact fn_fact X N c 0 rfl gi c_f1_is_integer b_f1_is_integer
    · exact fn_fact X N c 1 rfl gi c_f15_is_natural b_f15_is_natural
    · exact fn_fact X N c 2 rfl gi c_f16_check_natural b_f16_check_natural
    · exact fn_fact X N c 3 rfl gi c_f118_is_within b_f118_is_within
    · exact fn_fact X N c 4 rfl gi c_f119_are_tiers b_f119_are_tiers
    · exact fn_fact X N c 5 rfl gi c_f120_is_plan b_f120_is_plan
    · exact fn_fact X N c 6 rfl gi c_f121_check_plan b_f121_check_plan
    · exact fn_fact X N c 7 rfl gi c_f145_rows b_f145_rows
    · exact fn_fact X N c 8 rfl gi c_f4_law_source b_f4_law_source
    · exact fn_fact X N c 9 rfl gi c_f5_law_draw b_f5_law_draw
    · exact fn_fact X N c 10 rfl gi c_f6_law_choice b_f6_law_choice
    · exact fn_fact X N c 11 rfl gi c_f7_law_equal b_f7_law_equal
    · exact fn_fact X N c 12 rfl gi c_f124_law_tiers b_f124_law_tiers
    · exact fn_fact X N c 13 rfl gi c_f125_law_plan b_f125_law_plan
    · exact fn_fact X N c 14 rfl gi c_f141_law_hundredths b_f141_law_hundredths
    · exact fn_fact X N c 15 rfl gi c_f146_law_tier_rows b_f146_law_tier_rows
  gls := fun x d q => by
    have q : [(("GREATEST" : Str), ((.int 10000000000000000000000000000000000000000) : D)), (("MOST_TIERS" : Str), ((.int 8) : D)), (("MOST_AMOUNT" : Str), ((.int 1000000000000) : D))].lookup x = some d := q
    simp only [List.lookup_cons, List.lookup_nil] at q
    split at q
    · rename_i e; cases q; rw [eq_of_beq e]; exact gl_int X N c (by unfold fa; exact List.mem_append_right _ (List.mem_of_getElem? (i := 0) rfl))
    split at q
    · rename_i e; cases q; rw [eq_of_beq e]; exact gl_int X N c (by unfold fa; exact List.mem_append_right _ (List.mem_of_getElem? (i := 1) rfl))
    split at q
    · rename_i e; cases q; rw [eq_of_beq e]; exact gl_int X N c (by unfold fa; exact List.mem_append_right _ (List.mem_of_getElem? (i := 2) rfl))
    cases q
  blt := blt_of X N c free_in
/-- what the law's form gives -/
def lawRun (n : Nat) (ds : List D) : FRes := runB G.I (run G n) f147_law ds
theorem holds_of {n : Nat} (hr : Room (n + 1) callerA) (hrun : ∀ ns : List Int, ns.length ≤ 63 → ∃ out, lawRun n [.list (ns.map .int)] = .ok (.bool true) out) : PySem.Challenge.rw_tierpay_k16_rows_of_what_is_paid.Holds := by
  w_on; o_law
  refine HandSHeadRun.head_any (r := PySem.W.OpenLaw.row PySem.Challenge.rw_tierpay_k16_rows_of_what_is_paid) (q := PySem.W.view (PySem.W.OpenLaw.row PySem.Challenge.rw_tierpay_k16_rows_of_what_is_paid).prog [26]) (H := hk) (ob := ob) (M := 4000) (loose := loose) (d := HandSHeadRun.topDef (PySem.W.OpenLaw.row PySem.Challenge.rw_tierpay_k16_rows_of_what_is_paid).prog 26) (kwd := []) ob_eq
    (by kernel_rfl) (fun s => by kernel_rfl) runs (by kernel_rfl) (by kernel_rfl) (by kernel_rfl) (by rfl) (by first | assumption | decide +kernel) (by decide +kernel) ⟨rfl, rfl, rfl, rfl, rfl, by decide +kernel⟩ ?hw ?hc
  case hw => w_witness2
  case hc =>
    refine walk_T (l := PySem.Challenge.rw_tierpay_k16_rows_of_what_is_paid) (n := 63) (k := n + 1) (x := "script") (CX := CX0) rfl (by decide) (by kernel_rfl) hr ?F (fun _ _ _ _ z => z)
    intro w mg fa' h Y N hmg0
    obtain ⟨K, X, c⟩ := Y
    have hmg : mg ("law" : Str) = some (.ref fa') := by
      have e : (HandSHeadRun.topDef (PySem.W.OpenLaw.row PySem.Challenge.rw_tierpay_k16_rows_of_what_is_paid).prog 26).name = ("law" : PySem.Str) := by kernel_rfl
      rw [← e]
      exact hmg0
    obtain ⟨fdt, F⟩ := c.def_ 16 (d := defOf "law" (top 26)) rfl
    have F : FunD K "law" "law" (defArgs (top 26)) (defBody (top 26)) (defScope (top 26)) [] [] (He.fAd K ("law", none)) fdt := F
    have e := hmg.symm.trans (He.glo_ok X N (c.fact 0 (f := .glo "law") rfl))
    have e := Value.ref.inj (Option.some.inj e)
    subst e
    have ck := c_f147_law
    unfold chk at ck
    rw [Bool.and_eq_true] at ck
    have tx := text_ok X N c
    refine ⟨K, fdt, fun vs H Q E => (∀ c d H, ¬ E c d H) ∧ spOf ⟨fun _ => none, fun _ => none⟩ K none false (lawRun n) vs H Q E, X, fun s u => F.bindsA (ps := ["script"]) b_f147_law s [u] rfl, fun H a ns hl hS => law_sp hS (hrun ns hl), fun base _ _ => law_ok (fd := f147_law) tx F (scB_ok ck.1) ck.2⟩
end Tp
/-! K16L: the law. -/
namespace Tp
open PySem
theorem hl1 : G.fns.lookup 1 = some f1_is_integer := rfl
theorem hl4 : G.fns.lookup 4 = some f4_law_source := rfl
theorem hl5 : G.fns.lookup 5 = some f5_law_draw := rfl
theorem hl6 : G.fns.lookup 6 = some f6_law_choice := rfl
theorem hl7 : G.fns.lookup 7 = some f7_law_equal := rfl
theorem hl15 : G.fns.lookup 15 = some f15_is_natural := rfl
theorem hl16 : G.fns.lookup 16 = some f16_check_natural := rfl
theorem hl118 : G.fns.lookup 118 = some f118_is_within := rfl
theorem hl119 : G.fns.lookup 119 = some f119_are_tiers := rfl
theorem hl120 : G.fns.lookup 120 = some f120_is_plan := rfl
theorem hl121 : G.fns.lookup 121 = some f121_check_plan := rfl
theorem hl124 : G.fns.lookup 124 = some f124_law_tiers := rfl
theorem hl125 : G.fns.lookup 125 = some f125_law_plan := rfl
theorem hl141 : G.fns.lookup 141 = some f141_law_hundredths := rfl
theorem hl145 : G.fns.lookup 145 = some f145_rows := rfl
theorem hl146 : G.fns.lookup 146 = some f146_law_tier_rows := rfl
theorem hg1 : G.gl.lookup ("MOST_TIERS" : Str) = some (.int 8) := by kernel_rfl
theorem hg2 : G.gl.lookup ("MOST_AMOUNT" : Str) = some (.int 1000000000000) := by kernel_rfl
theorem hg3 : G.gl.lookup ("GREATEST" : Str) = some (.int 10000000000000000000000000000000000000000) := by kernel_rfl
/-- the slot of what was found before -/
def slotF (s7 : Slot) : Prop := s7 = .no ∨ ∃ d, s7 = .own d
def l1I (sc s pl tn : D) (c x : Int) (R : List Rw) (k : Nat) (e : Env) : Prop := ∃ s7, e = [.val sc, .val (.int c), .own s, .val pl, .val tn, .val (.int x), .no, s7, .no, .no, .no, .no, .no] ∧ slotF s7 ∧ (0 < k → s7 = .own (.list (R.map rD ++ [.int 0])))
theorem l1_run {k : Nat} {w : Bool} {ts : List Tr} {cap : D} (hts : Tv k ts) (k1 : 1 ≤ k) (k5 : k ≤ 5) (hc : capOk cap) {x : Int} (hx : 0 ≤ x) (hx2 : x ≤ 10 ^ 30) {sc s tn : D} {c : Int} {s7 : Slot} (h7 : slotF s7) :
    denS G.I (run G 8) f147_law_l1 [.val sc, .val (.int c), .own s, .val (planD w ts cap), .val tn, .val (.int x), .no, s7, .no, .no, .no, .no, .no] = .nx [.val sc, .val (.int c), .own s, .val (planD w ts cap), .val tn, .val (.int x), .no, .own (.list ((tierV w ts x).map rD ++ [.int 0])), .no, .no, .no, .no, .no] := by
  have e1 := rows_run (n := 2) hl1 hl15 hl16 hl118 hl119 hl120 hl121 hl145 hg1 hg2 hg3 (w := w) hts k1 k5 hc hx hx2
  have e2 := tier_rows_run (n := 7) hl146 (w := w) (cap := cap) hts k1 k5 hx
  rw [tier_rows_same hts] at e1
  have rl := tier_len hts k1 (w := w) (x := x)
  have e3 := equal_self (n := 7) hl7 _ (gd_mono (gd_rows (R := tierV w ts x) (by omega)) (by omega : 2 ≤ 7))
  generalize tierV w ts x = R at e1 e2 e3 rl ⊢
  have rz : R.length < sizeLine := Nat.lt_of_le_of_lt (show _ ≤ 900 by omega) (by decide)
  generalize planD w ts cap = pl at e1 e2 ⊢
  obtain ⟨eF, q1, q2⟩ := for_inv (t := .one 6) (mb := denS G.I (run G 8) (bodyOf f147_law_l1)) (kill := [6]) (I := l1I sc s pl tn c x R) (ds := rngs 0 2) (n := 0) (e := [.val sc, .val (.int c), .own s, .val pl, .val tn, .val (.int x), .no, s7, .no, .no, .no, .no, .no]) ⟨s7, rfl, h7, fun z => absurd z (by omega)⟩ fun i q e hq hi => by
    obtain ⟨hj, rfl⟩ := rngs_get hq
    obtain ⟨t7, rfl, ht7, _⟩ := hi
    refine ⟨[.val sc, .val (.int c), .own s, .val pl, .val tn, .val (.int x), .val (.int (0 + i)), t7, .no, .no, .no, .no, .no], [.val sc, .val (.int c), .own s, .val pl, .val tn, .val (.int x), .val (.int (0 + i)), .own (.list (R.map rD ++ [.int 0])), .no, .no, .no, .no, .no], [.val sc, .val (.int c), .own s, .val pl, .val tn, .val (.int x), .no, .own (.list (R.map rD ++ [.int 0])), .no, .no, .no, .no, .no], rfl, .inl ?_, rfl, ⟨_, rfl, .inr ⟨_, rfl⟩, fun _ => rfl⟩⟩
    rcases ht7 with rfl | ⟨d, rfl⟩ <;> simp [bodyOf, f147_law_l1, runB, denS, den, Den.of, Den.b, initE, initN, initV, BOp.f, COp.f, Bi.f, ixD, L2.atI, cmpI, intD, modD, divD, mulI, addD, subD, powD, negD, setM, changeM, setD, L2.ixN, putMine, liftE, Tgt.bind, bindAll, setV, setO, endB, outE, callM, callS, argD, argN, ioSlot, lenD, tupleD, listD, absD, isiD, isi2, isiAny, Tp.par2, putVO, augM, augF, appM, appD, wipeE, rngA, arity, asSrc, isNil, M.stuck, isND, notND, slcB, List.lookup, size_small, size_small', I_fn hl145, I_fn hl146, I_fn hl7, f145_rows, f146_law_tier_rows, f7_law_equal, e1, e2, e3, flat, rz]
  obtain ⟨t7, rfl, _, h⟩ := q2
  rw [h (by rw [rngs_len]; omega)] at q1
  unfold f147_law_l1 at q1 ⊢
  simp only [denS]
  rw [forM_val (ds := rngs 0 2) (e1 := [.val sc, .val (.int c), .own s, .val pl, .val tn, .val (.int x), .no, s7, .no, .no, .no, .no, .no]) (by
    have := asRng_i (j := 2) (e := [.val sc, .val (.int c), .own s, .val pl, .val tn, .val (.int x), .no, s7, .no, .no, .no, .no, .no]) (by decide) (by decide)
    simp [runB, denS, den, Den.of, Den.b, initE, initN, initV, BOp.f, COp.f, Bi.f, ixD, L2.atI, cmpI, intD, modD, divD, mulI, addD, subD, powD, negD, setM, changeM, setD, L2.ixN, putMine, liftE, Tgt.bind, bindAll, setV, setO, endB, outE, callM, callS, argD, argN, ioSlot, lenD, tupleD, listD, absD, isiD, isi2, isiAny, Tp.par2, putVO, augM, augF, appM, appD, wipeE, rngA, arity, asSrc, isNil, M.stuck, isND, notND, slcB, List.lookup, size_small, size_small', this])]
  exact q1
end Tp
/-! K16M: the sums. -/
namespace Tp
open PySem
theorem intsOf_map : ∀ xs : List Int, intsOf (xs.map PyData.int) = some xs
  | [] => rfl
  | x :: xs => by
    rw [List.map_cons, intsOf, intsOf_map xs]
    rfl
theorem sum_c2 {a b c pl tn xx w8 : Slot} {s : D} {R : List Rw} {x : Int} (hR : ∀ r ∈ R, okR x r) (hx2 : x ≤ 10 ^ 30) (hl : R.length ≤ 1000) :
    lcE G.I (run G 8) f147_law_c2 [a, b, .own s, pl, tn, xx, .no, .own (.list (R.map rD ++ [.int 0])), w8, .no, .no, .no, c] = .ok (.list ((R.map fun r => r.2.1 * r.2.2).map .int)) [a, b, .own s, pl, tn, xx, .no, .own (.list (R.map rD ++ [.int 0])), w8, .no, .no, .no, c] := by
  unfold lcE f147_law_c2
  simp only [den, Den.of]
  let f : D → D := fun d => match d with | .tuple [_, .int p, .int q] => .int (p * q) | d => d
  have hf : (R.map rD).map f = (R.map fun r => r.2.1 * r.2.2).map .int := by
    rw [List.map_map, List.map_map]
    rfl
  rw [← hf]
  have hcut := cut_init (ds := R.map rD) (d := .int 0)
  refine lcM_ok (p := (R.map rD, none)) (e1 := [a, b, .own s, pl, tn, xx, .no, .own (.list (R.map rD ++ [.int 0])), w8, .no, .no, .no, c]) (e2 := [a, b, .own s, pl, tn, xx, .no, .own (.list (R.map rD ++ [.int 0])), w8, .no, .no, .no, c]) ?_ (by rw [List.length_map]; exact Nat.le_trans hl (by decide)) rfl rfl (lc_map (f := f) fun q hq => ?_)
  · simp [runB, denS, den, Den.of, Den.b, initE, initN, initV, BOp.f, COp.f, Bi.f, ixD, L2.atI, cmpI, intD, modD, divD, mulI, addD, subD, powD, negD, setM, changeM, setD, L2.ixN, putMine, liftE, Tgt.bind, bindAll, setV, setO, endB, outE, callM, callS, argD, argN, ioSlot, lenD, tupleD, listD, absD, isiD, isi2, isiAny, Tp.par2, putVO, augM, augF, appM, appD, wipeE, rngA, arity, asSrc, isNil, M.stuck, isND, notND, slcB, List.lookup, size_small, size_small', pureIE, slcD, hcut]
  · obtain ⟨r, hr, rfl⟩ := List.mem_map.mp hq
    obtain ⟨o1, o2, o3, o4⟩ := hR r hr
    have s1 : sm r.2.1 = true := sm_of (Nat.lt_of_le_of_lt (show _ ≤ 10 ^ 41 by omega) (by decide))
    have s2 : sm r.2.2 = true := sm_64 (by omega) (by omega)
    refine ⟨[a, b, .own s, pl, tn, xx, .no, .own (.list (R.map rD ++ [.int 0])), w8, .val (.int r.1), .val (.int r.2.1), .val (.int r.2.2), c], [a, b, .own s, pl, tn, xx, .no, .own (.list (R.map rD ++ [.int 0])), w8, .val (.int r.1), .val (.int r.2.1), .val (.int r.2.2), c], rfl, rfl, ?_, rfl⟩
    simp [runB, denS, den, Den.of, Den.b, initE, initN, initV, BOp.f, COp.f, Bi.f, ixD, L2.atI, cmpI, intD, modD, divD, mulI, addD, subD, powD, negD, setM, changeM, setD, L2.ixN, putMine, liftE, Tgt.bind, bindAll, setV, setO, endB, outE, callM, callS, argD, argN, ioSlot, lenD, tupleD, listD, absD, isiD, isi2, isiAny, Tp.par2, putVO, augM, augF, appM, appD, wipeE, rngA, arity, asSrc, isNil, M.stuck, isND, notND, slcB, List.lookup, size_small, size_small', rD, f, s1, s2]
theorem sum_c1 {a b c1 c2 c3 pl tn xx w8 : Slot} {s : D} {R : List Rw} (hl : R.length ≤ 1000) :
    lcE G.I (run G 8) f147_law_c1 [a, b, .own s, pl, tn, xx, .no, .own (.list (R.map rD ++ [.int 0])), w8, c1, c2, c3, .no] = .ok (.list ((R.map fun r => r.2.1).map .int)) [a, b, .own s, pl, tn, xx, .no, .own (.list (R.map rD ++ [.int 0])), w8, c1, c2, c3, .no] := by
  unfold lcE f147_law_c1
  simp only [den, Den.of]
  let f : D → D := fun d => match d with | .tuple [_, p, _] => p | d => d
  have hf : (R.map rD).map f = (R.map fun r => r.2.1).map .int := by
    rw [List.map_map, List.map_map]
    rfl
  rw [← hf]
  have hcut := cut_init (ds := R.map rD) (d := .int 0)
  refine lcM_ok (p := (R.map rD, none)) (e1 := [a, b, .own s, pl, tn, xx, .no, .own (.list (R.map rD ++ [.int 0])), w8, c1, c2, c3, .no]) (e2 := [a, b, .own s, pl, tn, xx, .no, .own (.list (R.map rD ++ [.int 0])), w8, c1, c2, c3, .no]) ?_ (by rw [List.length_map]; exact Nat.le_trans hl (by decide)) rfl rfl (lc_map (f := f) fun q hq => ?_)
  · simp [runB, denS, den, Den.of, Den.b, initE, initN, initV, BOp.f, COp.f, Bi.f, ixD, L2.atI, cmpI, intD, modD, divD, mulI, addD, subD, powD, negD, setM, changeM, setD, L2.ixN, putMine, liftE, Tgt.bind, bindAll, setV, setO, endB, outE, callM, callS, argD, argN, ioSlot, lenD, tupleD, listD, absD, isiD, isi2, isiAny, Tp.par2, putVO, augM, augF, appM, appD, wipeE, rngA, arity, asSrc, isNil, M.stuck, isND, notND, slcB, List.lookup, size_small, size_small', pureIE, slcD, hcut]
  · obtain ⟨r, hr, rfl⟩ := List.mem_map.mp hq
    refine ⟨[a, b, .own s, pl, tn, xx, .no, .own (.list (R.map rD ++ [.int 0])), w8, c1, c2, c3, .val (rD r)], [a, b, .own s, pl, tn, xx, .no, .own (.list (R.map rD ++ [.int 0])), w8, c1, c2, c3, .val (rD r)], rfl, rfl, ?_, rfl⟩
    simp [runB, denS, den, Den.of, Den.b, initE, initN, initV, BOp.f, COp.f, Bi.f, ixD, L2.atI, cmpI, intD, modD, divD, mulI, addD, subD, powD, negD, setM, changeM, setD, L2.ixN, putMine, liftE, Tgt.bind, bindAll, setV, setO, endB, outE, callM, callS, argD, argN, ioSlot, lenD, tupleD, listD, absD, isiD, isi2, isiAny, Tp.par2, putVO, augM, augF, appM, appD, wipeE, rngA, arity, asSrc, isNil, M.stuck, isND, notND, slcB, List.lookup, size_small, size_small', rD, f]
end Tp
/-! K16N: the law, whole. -/
namespace Tp
open PySem
theorem choice_tup {H : PG} {n t : Nat} (h5 : H.fns.lookup 5 = some f5_law_draw) (h6 : H.fns.lookup 6 = some f6_law_choice) {s : D} (hs : Sor t s) (ht : t < 2 ^ 20) {xs : List D} (h1 : xs ≠ []) (h2 : xs.length ≤ sizeLine) :
    ∃ x s', run H (n+2) 6 [s, .tuple xs] = .ok x s' ∧ x ∈ xs ∧ Sor (t+1) s' := by
  have hl : 1 ≤ xs.length := List.length_pos_iff.mpr h1
  have hz : sizeLine ≤ 2 ^ 62 := by decide
  obtain ⟨d, s', e, d1, d2, hs'⟩ := draw_run (n := n) h5 hs ht (size := (xs.length : Int)) (by omega) (sm_64 (by omega) (by omega))
  have hd : d.toNat < xs.length := by omega
  refine ⟨xs[d.toNat], s', ?_, List.getElem_mem hd, hs'⟩
  rw [run_at h6]
  have hn : ¬ d < 0 := by omega
  simp [runB, denS, den, Den.of, Den.b, initE, initN, initV, BOp.f, COp.f, Bi.f, ixD, L2.atI, cmpI, intD, modD, divD, mulI, addD, subD, powD, negD, setM, changeM, setD, L2.ixN, putMine, liftE, Tgt.bind, bindAll, setV, setO, endB, outE, callM, callS, argD, argN, ioSlot, lenD, tupleD, listD, absD, isiD, isi2, isiAny, Tp.par2, putVO, augM, augF, appM, appD, wipeE, rngA, arity, asSrc, isNil, M.stuck, isND, notND, slcB, List.lookup, size_small, size_small', f6_law_choice, I_fn h5, f5_law_draw, e, hn, d1, d2, hd]
structure L2I (t : Nat) (sc pl : D) (c : Int) (k : Nat) (e : Env) : Prop where
  ex : ∃ s s7, e = [.val sc, .val (.int c), .own s, .val pl, .no, .no, .no, s7, .no, .no, .no, .no, .no] ∧ slotF s7 ∧ Sor (t + 4 * k) s
theorem l2_step {k : Nat} {w : Bool} {ts : List Tr} {cap : D} (hts : Tv k ts) (k1 : 1 ≤ k) (k5 : k ≤ 5) (hc : capOk cap) {sc : D} {c : Int} {t i : Nat} (ht : t + 4 * i + 10 < 2 ^ 20) {e : Env} (h : L2I t sc (planD w ts cap) c i e) :
    ∃ e1 e2 e3, (Tgt.one 4).bind (.int i) e = some e1 ∧ denS G.I (run G 8) (bodyOf f147_law_l2) e1 = .nx e2 ∧ wipeE e2 [4, 5, 6, 8] = some e3 ∧ L2I t sc (planD w ts cap) c (i + 1) e3 := by
  obtain ⟨s, s7, rfl, h7, hs⟩ := h.ex
  have hlen := hts.len
  obtain ⟨d, s1, a1, dm, hs1⟩ := choice_tup (n := 6) hl5 hl6 hs (by omega) (xs := ts.map tD) (fun z => by simp at z; subst z; simp at hlen; omega) (by rw [List.length_map]; exact Nat.le_trans (show _ ≤ 1000 by omega) (by decide))
  obtain ⟨t0, tm, rfl⟩ := List.mem_map.mp dm
  obtain ⟨d2, s2, a2, b2, b3, hs2⟩ := draw_run (n := 7) hl5 hs1 (by omega) (size := 1000000) (by decide) (by decide)
  obtain ⟨v, s3, a3, vm, hs3⟩ := choice_run (n := 6) hl5 hl6 hs2 (by omega) (xs := [.int 0, .int 1, .int 2, .int d2]) (by simp) (Nat.le_trans (show _ ≤ 1000 by simp) (by decide))
  obtain ⟨y, rfl, y0, y1⟩ : ∃ y : Int, v = .int y ∧ 0 ≤ y ∧ y ≤ 10 ^ 6 := by
    simp only [List.mem_cons, List.not_mem_nil, or_false] at vm
    rcases vm with q | q | q | q <;> exact ⟨_, q, by omega, by omega⟩
  have z0 := hts.lo t0 tm
  have z1 := hts.hi t0 tm
  have hx : 0 ≤ t0.1 + y := by omega
  have hx2 : t0.1 + y ≤ 10 ^ 30 := by omega
  generalize hX : t0.1 + y = x at hx hx2
  have q1 := l1_run (w := w) (cap := cap) hts k1 k5 hc hx hx2 (sc := sc) (s := s3) (tn := .int i) (c := c) h7
  have rl := tier_len hts k1 (w := w) (x := x)
  have q2 := sum_c2 (a := .val sc) (b := .val (.int c)) (s := s3) (pl := .val (planD w ts cap)) (tn := .val (.int i)) (xx := .val (.int x)) (w8 := .no) (c := .no) (R := tierV w ts x) (tier_ok hts hx) hx2 (by omega)
  have q3 := sum_c1 (a := .val sc) (b := .val (.int c)) (s := s3) (pl := .val (planD w ts cap)) (tn := .val (.int i)) (xx := .val (.int x)) (w8 := .val (.int (sumH (tierV w ts x)))) (c1 := .no) (c2 := .no) (c3 := .no) (R := tierV w ts x) (by omega)
  have q4 := hund_run (n := 7) hl141 (w := w) hts k1 k5 hx hx2
  have q5 := sumP_tier hts k1 (w := w) hx
  have q6 : ((tierV w ts x).map fun r => r.2.1 * r.2.2).sum = sumH (tierV w ts x) := rfl
  have q7 : ((tierV w ts x).map fun r => r.2.1).sum = x := q5
  have r1 := intsOf_map ((tierV w ts x).map fun r => r.2.1 * r.2.2)
  have r2 := intsOf_map ((tierV w ts x).map fun r => r.2.1)
  generalize ((tierV w ts x).map fun r => r.2.1 * r.2.2) = A at q2 q6 r1
  generalize ((tierV w ts x).map fun r => r.2.1) = B at q3 q7 r2
  generalize sumH (tierV w ts x) = S at q3 q4 q6
  generalize (tierV w ts x).map rD = R at q1 q2 q3
  refine ⟨[.val sc, .val (.int c), .own s, .val (planD w ts cap), .val (.int i), .no, .no, s7, .no, .no, .no, .no, .no], [.val sc, .val (.int c), .own s3, .val (planD w ts cap), .val (.int i), .val (.int x), .no, .own (.list (R ++ [.int 0])), .val (.int S), .no, .no, .no, .no], [.val sc, .val (.int c), .own s3, .val (planD w ts cap), .no, .no, .no, .own (.list (R ++ [.int 0])), .no, .no, .no, .no, .no], rfl, ?_, rfl, ⟨s3, _, rfl, .inr ⟨_, rfl⟩, hs3.mono (by omega)⟩⟩
  simp only [planD, tsD] at q1 q2 q3 q4 ⊢
  simp [tD] at a1
  rcases h7 with rfl | ⟨d7, rfl⟩ <;> simp [bodyOf, f147_law_l2, runB, denS, den, Den.of, Den.b, initE, initN, initV, BOp.f, COp.f, Bi.f, ixD, L2.atI, cmpI, intD, modD, divD, mulI, addD, subD, powD, negD, setM, changeM, setD, L2.ixN, putMine, liftE, Tgt.bind, bindAll, setV, setO, endB, outE, callM, callS, argD, argN, ioSlot, lenD, tupleD, listD, absD, isiD, isi2, isiAny, Tp.par2, putVO, augM, augF, appM, appD, wipeE, rngA, arity, asSrc, isNil, M.stuck, isND, notND, slcB, List.lookup, size_small, size_small', I_fn hl5, I_fn hl6, I_fn hl141, f5_law_draw, f6_law_choice, f141_law_hundredths, a1, a2, a3, hX, q1, d_f147_law_c1, d_f147_law_c2, q2, q3, q4, q6, q7, sumD, r1, r2, neD, eqv_int, tD]
end Tp
/-! K16Z: the law. -/
namespace Tp
open PySem
theorem mem_cut {ds : List D} {lo hi : Option Int} {d : D} (h : d ∈ cutD ds lo hi) : d ∈ ds := List.mem_of_mem_drop (List.mem_of_mem_take h)
def l3I (sc : D) (e : Env) : Prop := ∃ s7, e = [.val sc, .no, .no, .no, .no, .no, .no, s7, .no, .no, .no, .no, .no] ∧ slotF s7
theorem law_run (ns : List Int) (hn : ns.length ≤ 63) : ∃ out, lawRun 8 [.list (ns.map .int)] = .ok (.bool true) out := by
  let sc : D := .list (ns.map .int)
  let cs : List D := cutD (.int 0 :: ns.map .int) none (some 15)
  have hcs : ∀ d ∈ cs, ∃ c : Int, d = .int c := fun d hd => by
    rcases List.mem_cons.mp (mem_cut hd) with h | h
    · exact ⟨0, h⟩
    · obtain ⟨c, _, h⟩ := List.mem_map.mp h
      exact ⟨c, h.symm⟩
  let env0 : Env := [.val sc, .no, .no, .no, .no, .no, .no, .no, .no, .no, .no, .no, .no]
  obtain ⟨eF, k1, k2⟩ := for_inv (t := .one 1) (mb := denS G.I (run G 8) (bodyOf f147_law_l3)) (kill := [1, 2, 3, 4, 5, 6, 8]) (I := fun _ e => l3I sc e) (ds := cs) (n := 0) (e := env0) ⟨.no, rfl, .inl rfl⟩ fun i d e hd hi => by
    obtain ⟨s7, rfl, h7⟩ := hi
    obtain ⟨c, rfl⟩ := hcs d (List.mem_of_getElem? hd)
    obtain ⟨s, e1, hs⟩ := source_run (n := 7) (t := 16) hl4 c
    obtain ⟨w, k, ts, cap, s1, e2, kk1, kk5, hts, hc, hs1⟩ := plan_run (n := 4) hl5 hl6 hl124 hl125 (by omega) hs
    obtain ⟨eL, j1, j2⟩ := for_inv (t := .one 4) (mb := denS G.I (run G 8) (bodyOf f147_law_l2)) (kill := [4, 5, 6, 8]) (I := L2I 46 sc (planD w ts cap) c) (ds := rngs 0 6) (n := 0) (e := [.val sc, .val (.int c), .own s1, .val (planD w ts cap), .no, .no, .no, s7, .no, .no, .no, .no, .no]) ⟨s1, s7, rfl, h7, hs1.mono (by omega)⟩ fun i q e hq hi => by
      obtain ⟨hj, rfl⟩ := rngs_get hq
      rw [Nat.zero_add] at hi ⊢
      obtain ⟨e1, e2, e3, a1, a2, a3, a4⟩ := l2_step hts kk1 kk5 hc (by omega) hi
      exact ⟨e1, e2, e3, by rw [Int.zero_add]; exact a1, .inl a2, a3, a4⟩
    obtain ⟨s2, t7, rfl, ht7, _⟩ := j2.ex
    have hL : denS G.I (run G 8) f147_law_l2 [.val sc, .val (.int c), .own s1, .val (planD w ts cap), .no, .no, .no, s7, .no, .no, .no, .no, .no] = .nx [.val sc, .val (.int c), .own s2, .val (planD w ts cap), .no, .no, .no, t7, .no, .no, .no, .no, .no] := by
      unfold f147_law_l2 at j1 ⊢
      simp only [denS]
      rw [forM_val (ds := rngs 0 6) (e1 := [.val sc, .val (.int c), .own s1, .val (planD w ts cap), .no, .no, .no, s7, .no, .no, .no, .no, .no]) (by
        have := asRng_i (j := 6) (e := [.val sc, .val (.int c), .own s1, .val (planD w ts cap), .no, .no, .no, s7, .no, .no, .no, .no, .no]) (by decide) (by decide)
        simp [runB, denS, den, Den.of, Den.b, initE, initN, initV, BOp.f, COp.f, Bi.f, ixD, L2.atI, cmpI, intD, modD, divD, mulI, addD, subD, powD, negD, setM, changeM, setD, L2.ixN, putMine, liftE, Tgt.bind, bindAll, setV, setO, endB, outE, callM, callS, argD, argN, ioSlot, lenD, tupleD, listD, absD, isiD, isi2, isiAny, Tp.par2, putVO, augM, augF, appM, appD, wipeE, rngA, arity, asSrc, isNil, M.stuck, isND, notND, slcB, List.lookup, size_small, size_small', this])]
      exact j1
    refine ⟨[.val sc, .val (.int c), .no, .no, .no, .no, .no, s7, .no, .no, .no, .no, .no], [.val sc, .val (.int c), .own s2, .val (planD w ts cap), .no, .no, .no, t7, .no, .no, .no, .no, .no], [.val sc, .no, .no, .no, .no, .no, .no, t7, .no, .no, .no, .no, .no], rfl, .inl ?_, ?_, ⟨t7, rfl, ht7⟩⟩
    · simp at e1
      generalize planD w ts cap = pl at e2 hL
      simp [bodyOf, f147_law_l3, runB, denS, den, Den.of, Den.b, initE, initN, initV, BOp.f, COp.f, Bi.f, ixD, L2.atI, cmpI, intD, modD, divD, mulI, addD, subD, powD, negD, setM, changeM, setD, L2.ixN, putMine, liftE, Tgt.bind, bindAll, setV, setO, endB, outE, callM, callS, argD, argN, ioSlot, lenD, tupleD, listD, absD, isiD, isi2, isiAny, Tp.par2, putVO, augM, augF, appM, appD, wipeE, rngA, arity, asSrc, isNil, M.stuck, isND, notND, slcB, List.lookup, size_small, size_small', I_fn hl4, I_fn hl125, f4_law_source, f125_law_plan, e1, e2, hL]
    · rfl
  obtain ⟨s7, rfl, h7⟩ := k2
  have hL : denS G.I (run G 8) f147_law_l3 env0 = .nx [.val sc, .no, .no, .no, .no, .no, .no, s7, .no, .no, .no, .no, .no] := by
    unfold f147_law_l3
    simp only [denS]
    have hz : ns.length + 1 ≤ sizeLine := Nat.le_trans (show _ ≤ 1000 by omega) (by decide)
    have hz2 : 1 + ns.length ≤ sizeLine := Nat.le_trans (show _ ≤ 1000 by omega) (by decide)
    rw [forM_val (ds := cs) (e1 := env0) (by simp [runB, denS, den, Den.of, Den.b, initE, initN, initV, BOp.f, COp.f, Bi.f, ixD, L2.atI, cmpI, intD, modD, divD, mulI, addD, subD, powD, negD, setM, changeM, setD, L2.ixN, putMine, liftE, Tgt.bind, bindAll, setV, setO, endB, outE, callM, callS, argD, argN, ioSlot, lenD, tupleD, listD, absD, isiD, isi2, isiAny, Tp.par2, putVO, augM, augF, appM, appD, wipeE, rngA, arity, asSrc, isNil, M.stuck, isND, notND, slcB, List.lookup, size_small, size_small', slcD, env0, sc, cs, hz, hz2])]
    exact k1
  refine ⟨.none, ?_⟩
  unfold lawRun
  simp only [env0, sc] at hL
  simp [runB, denS, den, Den.of, Den.b, initE, initN, initV, BOp.f, COp.f, Bi.f, ixD, L2.atI, cmpI, intD, modD, divD, mulI, addD, subD, powD, negD, setM, changeM, setD, L2.ixN, putMine, liftE, Tgt.bind, bindAll, setV, setO, endB, outE, callM, callS, argD, argN, ioSlot, lenD, tupleD, listD, absD, isiD, isi2, isiAny, Tp.par2, putVO, augM, augF, appM, appD, wipeE, rngA, arity, asSrc, isNil, M.stuck, isND, notND, slcB, List.lookup, size_small, size_small', f147_law, hL]
theorem k16 : PySem.Challenge.rw_tierpay_k16_rows_of_what_is_paid.Holds := holds_of (n := 8) ⟨rfl, by decide, by decide⟩ law_run
end Tp
theorem PySem.Challenge.cw_tierpay_k16_rows_of_what_is_paid_holds : PySem.Challenge.rw_tierpay_k16_rows_of_what_is_paid.Holds := by
  exact Tp.k16
