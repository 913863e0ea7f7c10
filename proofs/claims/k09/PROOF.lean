import PyProof.Rows.All
import Wide.All
import OpenK.AllK
import Wide.FinOn
import PyProof.EqAt
import PyProof.EqKinds
import PyProof.TupleCall
import HandS.ForMost
import HandS.ForExc
import HandS.Lambda
import HandS.EndTab
import HandS.ExcCtx
import HandS.Deep
import HandS.Style
import HandS.IsInst
import HandS.TupAny
import HandS.TupLe
import HandS.TupMul
import HandS.Wide
import HandS.WideBits
import HandS.TupSets
import HandS.Zip
import KE.KRevSl
import KE.GoesMore
import PyProof.WalksMore
import HandS.Hot
import HandS.HotCalls
import HandS.SuiteRaise
import HandS.ExcIs
import HandS.Text
import HandS.HeadWalk
import HandS.HeadNt
import HandS.HeadHook4
import HandS.CallLocal
import HandS.FStr
import HandS.Conv
import HandS.Head0
import HandS.Head1
import HandS.Head2
import Lean
import KE.KStateDown
import HandS.HeadEnd
import PySem.Challenge.RW_moodsuntold_k09_texts_of_cooks
set_option Elab.async false
set_option linter.all false
set_option autoImplicit false
set_option maxRecDepth 100000
set_option maxHeartbeats 2000000
namespace VS
open PySem PySem.Spec PyProof.Rows L2

inductive D where
  | non | bl (b : Bool) | int (i : Int) | str (x : Str) | tup (l : List D) | lst (l : List D) | obj (n : Nat) | fn (x : Str) | adr (a : Nat)
  deriving Inhabited

/-- an exception of the program: its class, its field -/
structure Exn where
  cls : Str
  fld : Option (Str × D)

/-- an object with an identity -/
inductive SO where
  | cell (l : List D)
  | ins (C : Str) (fs : List (Str × D))
abbrev Sto := List SO

inductive Res (α : Type) where
  | ok (a : α) (S : Sto)
  | exc (x : Exn) (S : Sto)
  | stuck
def Res.bind {α β : Type} (r : Res α) (k : α → Sto → Res β) : Res β := match r with
  | .ok a S => k a S
  | .exc x S => .exc x S
  | .stuck => .stuck
@[simp] theorem Res.bind_ok {α β : Type} (a : α) (S : Sto) (k : α → Sto → Res β) : (Res.ok a S).bind k = k a S := rfl
@[simp] theorem Res.bind_exc {α β : Type} (x : Exn) (S : Sto) (k : α → Sto → Res β) : (Res.exc x S).bind k = .exc x S := rfl
@[simp] theorem Res.bind_stuck {α β : Type} (k : α → Sto → Res β) : (Res.stuck : Res α).bind k = .stuck := rfl

/-- a name's slot: without a value, data, a list of its own, a dict of its own -/
inductive Sl where
  | un
  | val (d : D)
  | ol (l : List D)
  | od (kvs : List (D × D))
abbrev Env := List Sl

structure Wd where
  K : PySem.W.Frag
  mg : Str → Option Value
  T : List (Addr × Str)

def ImL (K : PySem.W.Frag) (H : Hp) (a : Addr) (xs : List V) : Prop :=
  (∃ o, H a = some (.frz o (.lst xs))) ∨ ∃ (its : Array Value) (n : Nat), K.lookup a = some { cls := .type "list", data := .seq its n } ∧ its.size ≤ sizeLine ∧ Vals xs its.toList
theorem ImL.sq {K : PySem.W.Frag} {H : Hp} {a : Addr} {xs : List V} (h : ImL K H a xs) : SqL K H a xs := by
  rcases h with h | ⟨its, n, h, z, r⟩
  · exact .inl (.inr h)
  · exact .inr ⟨_, its, n, h, rfl, rfl, rfl, z, r⟩
/-- a list whose object is known whole -/
def RdK (K : PySem.W.Frag) (H : Hp) (a : Addr) (xs : List V) : Prop := Rd H a (.lst xs) ∨ ∃ (its : Array Value) (n : Nat), K.lookup a = some { cls := .type "list", data := .seq its n } ∧ its.size ≤ sizeLine ∧ Vals xs its.toList
theorem ImL.rd {K : PySem.W.Frag} {H : Hp} {a : Addr} {xs : List V} (h : ImL K H a xs) : RdK K H a xs := by
  rcases h with h | h
  · exact .inl (.inr h)
  · exact .inr h
theorem RdK.isl {X : Cx} {pins : List (Addr × Obj)} {σ : L2.St} {H : Hp} {s : Shared} {a : Addr} {xs : List V} (h : RdK X.K H a xs) (I : Inv X pins σ H s) : xs.length ≤ sizeLine ∧ ∃ (its : List Value) (n : Nat), Vals xs its ∧ s.heap.get? a = some { cls := .type "list", data := .seq its.toArray n } := by
  rcases h with h | ⟨its, n, h, z, r⟩
  · exact h.ok I.hok
  · refine ⟨?_, its.toList, n, r, by simpa using I.kIn a _ h⟩
    have := r.length
    simp only [Array.length_toList] at this
    omega

mutual
inductive Rep (Z : Wd) (β : List Addr) (H : Hp) : V → D → Prop
  | non : Rep Z β H .non .non
  | bl (b : Bool) : Rep Z β H (.bl b) (.bl b)
  | int (i : Int) : Rep Z β H (.int i) (.int i)
  | str (x : Str) : Rep Z β H (.str x) (.str x)
  | tup {a : Addr} {vs : List V} {l : List D} : SqT Z.K H a vs → Reps Z β H vs l → Rep Z β H (.ref a) (.tup l)
  | lst {a : Addr} {vs : List V} {l : List D} : ImL Z.K H a vs → Reps Z β H vs l → Rep Z β H (.ref a) (.lst l)
  | obj {n : Nat} {a : Addr} : β[n]? = some a → Rep Z β H (.ref a) (.obj n)
  | fn {x : Str} {f : Addr} : Z.mg x = some (.ref f) → Rep Z β H (.ref f) (.fn x)
  | adr (a : Addr) : Rep Z β H (.ref a) (.adr a)
inductive Reps (Z : Wd) (β : List Addr) (H : Hp) : List V → List D → Prop
  | nil : Reps Z β H [] []
  | cons {v : V} {vs : List V} {d : D} {l : List D} : Rep Z β H v d → Reps Z β H vs l → Reps Z β H (v :: vs) (d :: l)
end

/-- never changes -/
def Im : HO → Bool
  | .tup _ => true
  | .frz _ _ => true
  | _ => false
def isTbl : HO → Bool
  | .tbl _ => true
  | _ => false

/-- all that stands, stands on -/
def Same (H H' : Hp) : Prop := ∀ a o, H a = some o → H' a = some o
theorem Same.refl (H : Hp) : Same H H := fun _ _ h => h
theorem Same.trans {H H1 H2 : Hp} (a : Same H H1) (b : Same H1 H2) : Same H H2 := fun c o h => b c o (a c o h)
theorem Same.new {H : Hp} {p : Addr} {o : HO} (h : H p = none) : Same H (upd H p o) := fun a u e => by
  rw [upd_ne (ne_of_none e h)]
  exact e

/-- from (β, H) to (β', H'): β are the addresses of the store's objects -/
structure Ev (β : List Addr) (H : Hp) (β' : List Addr) (H' : Hp) : Prop where
  pre : ∀ (n : Nat) (a : Addr), β[n]? = some a → β'[n]? = some a
  fresh : ∀ a, a ∈ β' → a ∉ β → H a = none
  keep : ∀ a o, H a = some o → (Im o = true ∨ (a ∉ β ∧ isTbl o = false)) → H' a = some o
  dom : ∀ a, H' a = none → H a = none
theorem Ev.refl (β : List Addr) (H : Hp) : Ev β H β H := ⟨fun _ _ h => h, fun a h n => absurd h n, fun _ _ h _ => h, fun _ h => h⟩
theorem Ev.of {β : List Addr} {H H' : Hp} (e : Same H H') : Ev β H β H' := ⟨fun _ _ h => h, fun a h n => absurd h n, fun a o h _ => e a o h, fun a h => by
  cases q : H a with
  | none => rfl
  | some o => rw [e a o q] at h; cases h⟩
theorem Ev.trans {β β1 β2 : List Addr} {H H1 H2 : Hp} (x : Ev β H β1 H1) (y : Ev β1 H1 β2 H2) : Ev β H β2 H2 where
  pre := fun n a h => y.pre n a (x.pre n a h)
  fresh := fun a h n => by
    by_cases h1 : a ∈ β1
    · exact x.fresh a h1 n
    · exact x.dom a (y.fresh a h h1)
  keep := fun a o h c => by
    have h1 := x.keep a o h c
    refine y.keep a o h1 ?_
    rcases c with c | ⟨c1, c2⟩
    · exact .inl c
    · refine .inr ⟨fun m => ?_, c2⟩
      have := x.fresh a m c1
      rw [h] at this; cases this
  dom := fun a h => x.dom a (y.dom a h)
theorem Ev.notin {β β' : List Addr} {H H' : Hp} (x : Ev β H β' H') {a : Addr} {o : HO} (h : H a = some o) (n : a ∉ β) : a ∉ β' := fun m => by
  have := x.fresh a m n
  rw [h] at this; cases this
theorem Ev.rdT {β β' : List Addr} {H H' : Hp} (x : Ev β H β' H') {a : Addr} {xs : List V} (h : Rd H a (.tup xs)) : Rd H' a (.tup xs) := by
  rcases h with h | ⟨o, h⟩
  · exact .inl (x.keep a _ h (.inl rfl))
  · exact .inr ⟨o, x.keep a _ h (.inl rfl)⟩
theorem Ev.sqT {K : PySem.W.Frag} {β β' : List Addr} {H H' : Hp} (x : Ev β H β' H') {a : Addr} {xs : List V} (h : SqT K H a xs) : SqT K H' a xs := by
  rcases h with h | h
  · exact .inl (x.rdT h)
  · exact .inr h
theorem Ev.imL {K : PySem.W.Frag} {β β' : List Addr} {H H' : Hp} (x : Ev β H β' H') {a : Addr} {xs : List V} (h : ImL K H a xs) : ImL K H' a xs := by
  rcases h with ⟨o, h⟩ | h
  · exact .inl ⟨o, x.keep a _ h (.inl rfl)⟩
  · exact .inr h

section
variable {Z : Wd} {β β' : List Addr} {H H' : Hp}
mutual
theorem Rep.mono (x : Ev β H β' H') : ∀ {d : D} {v : V}, Rep Z β H v d → Rep Z β' H' v d
  | _, _, .non => .non
  | _, _, .bl b => .bl b
  | _, _, .int i => .int i
  | _, _, .str z => .str z
  | _, _, .tup h r => .tup (x.sqT h) (Reps.mono x r)
  | _, _, .lst h r => .lst (x.imL h) (Reps.mono x r)
  | _, _, .obj h => .obj (x.pre _ _ h)
  | _, _, .fn h => .fn h
  | _, _, .adr a => .adr a
theorem Reps.mono (x : Ev β H β' H') : ∀ {l : List D} {vs : List V}, Reps Z β H vs l → Reps Z β' H' vs l
  | _, _, .nil => .nil
  | _, _, .cons r t => .cons (Rep.mono x r) (Reps.mono x t)
end
theorem Reps.length {vs : List V} : ∀ {l : List D}, Reps Z β H vs l → vs.length = l.length := by
  induction vs with
  | nil => intro l h; cases h; rfl
  | cons v vs ih => intro l h; cases h with | cons _ t => simp [ih t]
theorem Reps.get {vs : List V} {i : Nat} : ∀ {l : List D} {d : D}, Reps Z β H vs l → l[i]? = some d → ∃ v, vs[i]? = some v ∧ Rep Z β H v d := by
  induction vs generalizing i with
  | nil => intro l d h e; cases h; simp at e
  | cons v vs ih =>
    intro l d h e
    cases h with
    | cons r t =>
      cases i with
      | zero => simp at e; subst e; exact ⟨v, rfl, r⟩
      | succ i => simpa using ih t (by simpa using e)
theorem Reps.getV {vs : List V} {i : Nat} : ∀ {l : List D} {v : V}, Reps Z β H vs l → vs[i]? = some v → ∃ d, l[i]? = some d ∧ Rep Z β H v d := by
  induction vs generalizing i with
  | nil => intro l v h e; simp at e
  | cons u vs ih =>
    intro l v h e
    cases h with
    | cons r t =>
      cases i with
      | zero => simp at e; subst e; exact ⟨_, rfl, r⟩
      | succ i => simpa using ih t (by simpa using e)
theorem Reps.append {vs ws : List V} {l m : List D} (a : Reps Z β H vs l) (b : Reps Z β H ws m) : Reps Z β H (vs ++ ws) (l ++ m) := by
  induction vs generalizing l with
  | nil => cases a; exact b
  | cons v vs ih => cases a with | cons r t => exact .cons r (ih t)
theorem Reps.take {vs : List V} : ∀ {l : List D} (n : Nat), Reps Z β H vs l → Reps Z β H (vs.take n) (l.take n) := by
  induction vs with
  | nil => intro l n h; cases h; simp; exact .nil
  | cons v vs ih =>
    intro l n h
    cases h with
    | cons r t => cases n with
      | zero => exact .nil
      | succ n => exact .cons r (ih n t)
theorem Reps.drop {vs : List V} : ∀ {l : List D} (n : Nat), Reps Z β H vs l → Reps Z β H (vs.drop n) (l.drop n) := by
  induction vs with
  | nil => intro l n h; cases h; simp; exact .nil
  | cons v vs ih =>
    intro l n h
    cases h with
    | cons r t => cases n with
      | zero => exact .cons r t
      | succ n => exact ih n t
theorem Reps.set {vs : List V} {v : V} {d : D} (hr : Rep Z β H v d) : ∀ {l : List D} (n : Nat), Reps Z β H vs l → Reps Z β H (vs.set n v) (l.set n d) := by
  induction vs with
  | nil => intro l n h; cases h; simp; exact .nil
  | cons u vs ih =>
    intro l n h
    cases h with
    | cons r t => cases n with
      | zero => exact .cons hr t
      | succ n => exact .cons r (ih n t)
theorem Reps.reverse {vs : List V} {l : List D} (h : Reps Z β H vs l) : Reps Z β H vs.reverse l.reverse := by
  induction vs generalizing l with
  | nil => cases h; exact .nil
  | cons v vs ih =>
    cases h with
    | cons r t =>
      rw [List.reverse_cons, List.reverse_cons]
      exact (ih t).append (.cons r .nil)
theorem Reps.dropLast {vs : List V} {l : List D} (h : Reps Z β H vs l) : Reps Z β H vs.dropLast l.dropLast := by
  rw [List.dropLast_eq_take, List.dropLast_eq_take, h.length]
  exact h.take _
end

/-- between statements: what never changes stands on, the store's objects keep their addresses -/
structure Sv (β : List Addr) (H : Hp) (β' : List Addr) (H' : Hp) : Prop where
  im : ∀ a o, H a = some o → Im o = true → H' a = some o
  pre : ∀ (n : Nat) (a : Addr), β[n]? = some a → β'[n]? = some a
theorem Sv.refl (β : List Addr) (H : Hp) : Sv β H β H := ⟨fun _ _ h _ => h, fun _ _ h => h⟩
theorem Sv.trans {β β1 β2 : List Addr} {H H1 H2 : Hp} (x : Sv β H β1 H1) (y : Sv β1 H1 β2 H2) : Sv β H β2 H2 := ⟨fun a o h i => y.im a o (x.im a o h i) i, fun n a h => y.pre n a (x.pre n a h)⟩
theorem Ev.sv {β β' : List Addr} {H H' : Hp} (x : Ev β H β' H') : Sv β H β' H' := ⟨fun a o h i => x.keep a o h (.inl i), x.pre⟩
section
variable {Z : Wd} {β β' : List Addr} {H H' : Hp}
theorem Sv.sqT {K : PySem.W.Frag} (x : Sv β H β' H') {a : Addr} {xs : List V} (h : SqT K H a xs) : SqT K H' a xs := by
  rcases h with (h | ⟨o, h⟩) | h
  · exact .inl (.inl (x.im a _ h rfl))
  · exact .inl (.inr ⟨o, x.im a _ h rfl⟩)
  · exact .inr h
theorem Sv.imL {K : PySem.W.Frag} (x : Sv β H β' H') {a : Addr} {xs : List V} (h : ImL K H a xs) : ImL K H' a xs := by
  rcases h with ⟨o, h⟩ | h
  · exact .inl ⟨o, x.im a _ h rfl⟩
  · exact .inr h
mutual
theorem Rep.monoS (x : Sv β H β' H') : ∀ {d : D} {v : V}, Rep Z β H v d → Rep Z β' H' v d
  | _, _, .non => .non
  | _, _, .bl b => .bl b
  | _, _, .int i => .int i
  | _, _, .str z => .str z
  | _, _, .tup h r => .tup (x.sqT h) (Reps.monoS x r)
  | _, _, .lst h r => .lst (x.imL h) (Reps.monoS x r)
  | _, _, .obj h => .obj (x.pre _ _ h)
  | _, _, .fn h => .fn h
  | _, _, .adr a => .adr a
theorem Reps.monoS (x : Sv β H β' H') : ∀ {l : List D} {vs : List V}, Reps Z β H vs l → Reps Z β' H' vs l
  | _, _, .nil => .nil
  | _, _, .cons r t => .cons (Rep.monoS x r) (Reps.monoS x t)
end
end

theorem inv_freeze {X : Cx} {pins : List (Addr × Obj)} {σ : L2.St} {H : Hp} {s : Shared} {a : Addr} {xs : List V} (I : Inv X pins σ H s) (h : H a = some (.lst xs)) : ∃ o, Inv X pins σ (upd H a (.frz o (.lst xs))) s := by
  obtain ⟨z, its, n, r, e⟩ := I.hok a _ h
  have ne : ∀ b u, H b = some u → (∀ ys, u ≠ .lst ys) → b ≠ a := fun b u q d c => by rw [c, h] at q; exact d xs (Option.some.inj q).symm
  refine ⟨_, I.un (h' := s.heap) (t' := s.toks) (H' := upd H a (.frz { cls := .type "list", data := .seq its.toArray n } (.lst xs))) ⟨fun b o q _ _ _ => q, fun b o q _ _ _ => ⟨o.slots, q⟩, fun b o q m _ => ?_, fun b o q _ => ⟨o, q⟩, fun b ys q => ?_, fun b o u q => ?_, fun b ps q => ⟨#[], ?_⟩⟩ fun b u q => ?_⟩
  · rw [upd_ne (fun c => by rw [c, h] at m; cases m)]; exact m
  · rw [upd_ne (ne b _ q (fun _ c => by cases c))]; exact q
  · rw [upd_ne (ne b _ q (fun _ c => by cases c))]; exact q
  · rw [upd_ne (ne b _ q (fun _ c => by cases c)), q]; simp
  · by_cases hb : b = a
    · subst hb
      rw [upd_same] at q
      cases q
      exact ⟨e, z, its, n, r, e⟩
    · rw [upd_ne hb] at q
      refine (I.hok b u q).stay (fun c w _ k => k) (fun c k => ?_) fun c ys k => ?_
      · rw [upd_ne (ne c _ k (fun _ c => by cases c))]; exact k
      · rw [upd_ne (ne c _ k (fun _ c => by cases c))]; exact k
end VS

set_option maxHeartbeats 2000000
namespace VS
open PySem PySem.Spec PyProof.Rows L2

structure Fr where
  T : List (Addr × Str)
  H0 : Hp
  β0 : List Addr
abbrev zX (X : Cx) (F : Fr) : Wd := ⟨X.K, X.mg, F.T⟩

def FldR (Z : Wd) (β : List Addr) (H : Hp) : List (Str × V) → List (Str × D) → Prop := Paired fun p q => p.1 = q.1 ∧ Rep Z β H p.2 q.2
def SoR (Z : Wd) (β : List Addr) (H : Hp) (a : Addr) : SO → Prop
  | .cell l => ∃ vs, H a = some (.lst vs) ∧ Reps Z β H vs l
  | .ins C fs => ∃ (Ca dx : Addr) (fvs : List (Str × V)), Z.mg C = some (.ref Ca) ∧ H a = some (.ins Ca dx fvs) ∧ FldR Z β H fvs fs
structure StR (Z : Wd) (β : List Addr) (S : Sto) (H : Hp) : Prop where
  len : β.length = S.length
  nd : β.Nodup
  at_ : ∀ (n : Nat) (so : SO), S[n]? = some so → ∃ a, β[n]? = some a ∧ SoR Z β H a so
theorem FldR.mono {Z : Wd} {β β' : List Addr} {H H' : Hp} (x : Ev β H β' H') : ∀ {vs : List (Str × V)} {ds : List (Str × D)}, FldR Z β H vs ds → FldR Z β' H' vs ds
  | _, _, .nil => .nil
  | _, _, .cons r t => .cons ⟨r.1, r.2.mono x⟩ (FldR.mono x t)
theorem StR.same {Z : Wd} {β : List Addr} {S : Sto} {H H' : Hp} (h : StR Z β S H) (e : Same H H') : StR Z β S H' := by
  refine ⟨h.len, h.nd, fun n so q => ?_⟩
  obtain ⟨a, h1, h2⟩ := h.at_ n so q
  refine ⟨a, h1, ?_⟩
  cases so with
  | cell l => obtain ⟨vs, g1, g2⟩ := h2; exact ⟨vs, e _ _ g1, g2.mono (.of e)⟩
  | ins C fs => obtain ⟨Ca, dx, fvs, g1, g2, g3⟩ := h2; exact ⟨Ca, dx, fvs, g1, e _ _ g2, g3.mono (.of e)⟩

theorem StR.notin {Z : Wd} {β : List Addr} {S : Sto} {H : Hp} (h : StR Z β S H) {a : Addr} (n : H a = none) : a ∉ β := fun m => by
  obtain ⟨k, hn⟩ := List.getElem?_of_mem m
  obtain ⟨so, hs⟩ : ∃ so, S[k]? = some so := by
    have := (List.getElem?_eq_some_iff.mp hn).1
    rw [h.len] at this
    exact ⟨_, List.getElem?_eq_getElem this⟩
  obtain ⟨b, h1, h2⟩ := h.at_ k so hs
  rw [hn] at h1
  cases h1
  cases so with
  | cell l => obtain ⟨vs, g, _⟩ := h2; rw [n] at g; cases g
  | ins C fs => obtain ⟨_, _, _, _, g, _⟩ := h2; rw [n] at g; cases g

def isOwn : Sl → Bool
  | .ol _ => true
  | .od _ => true
  | _ => false
def SlR (Z : Wd) (F : Fr) (β : List Addr) (H : Hp) (v : Option (Option V)) : Sl → Prop
  | .un => True
  | .val d => ∃ x, v = some (some x) ∧ Rep Z β H x d
  | .ol l => ∃ a vs, v = some (some (.ref a)) ∧ H a = some (.lst vs) ∧ Reps Z β H vs l ∧ a ∉ β ∧ F.H0 a = none
  | .od _ => False
structure Rel (Z : Wd) (F : Fr) (ρ : Env) (S : Sto) (β : List Addr) (σ : L2.St) (H : Hp) : Prop where
  sto : StR Z β S H
  ev : Ev F.β0 F.H0 β H
  tab : LamX.Tabs F.T H
  len : ρ.length = σ.length
  slot : ∀ (i : Nat) (sl : Sl), ρ[i]? = some sl → SlR Z F β H σ[i]? sl
  own : ∀ (i j : Nat) (s t : Sl) (a : Addr), i ≠ j → ρ[i]? = some s → ρ[j]? = some t → isOwn s = true → isOwn t = true → σ[i]? = some (some (.ref a)) → σ[j]? = some (some (.ref a)) → False
theorem SlR.same {Z : Wd} {F : Fr} {β : List Addr} {H H' : Hp} {v : Option (Option V)} {sl : Sl} (h : SlR Z F β H v sl) (e : Same H H') : SlR Z F β H' v sl := by
  cases sl with
  | un => trivial
  | val d => obtain ⟨x, h1, h2⟩ := h; exact ⟨x, h1, h2.mono (.of e)⟩
  | ol l => obtain ⟨a, vs, h1, h2, h3, h4⟩ := h; exact ⟨a, vs, h1, e _ _ h2, h3.mono (.of e), h4⟩
  | od k => exact h
theorem Rel.same {Z : Wd} {F : Fr} {ρ : Env} {S : Sto} {β : List Addr} {σ : L2.St} {H H' : Hp} (h : Rel Z F ρ S β σ H) (e : Same H H') : Rel Z F ρ S β σ H' :=
  ⟨h.sto.same e, h.ev.trans (.of e), h.tab.ext e, h.len, fun i sl q => (h.slot i sl q).same e, h.own⟩
/-- an own slot's list -/
theorem Rel.ownAt {Z : Wd} {F : Fr} {ρ : Env} {S : Sto} {β : List Addr} {σ : L2.St} {H : Hp} (h : Rel Z F ρ S β σ H) {i : Nat} {s : Sl} {a : Addr} (e : ρ[i]? = some s) (o : isOwn s = true) (v : σ[i]? = some (some (.ref a))) : ∃ vs, H a = some (.lst vs) := by
  have q := h.slot i s e
  cases s with
  | un => cases o
  | val d => cases o
  | od k => exact q.elim
  | ol l =>
    obtain ⟨a', vs, h1, h2, _⟩ := q
    rw [v] at h1
    cases h1
    exact ⟨vs, h2⟩
/-- a list that is no slot's and no store's is frozen -/
theorem Rel.frz {Z : Wd} {F : Fr} {ρ : Env} {S : Sto} {β : List Addr} {σ : L2.St} {H : Hp} {a : Addr} {xs : List V} {o : Obj} (h : Rel Z F ρ S β σ H) (ha : H a = some (.lst xs)) (nb : a ∉ β) (n0 : F.H0 a = none)
    (ns : ∀ (i : Nat) (s : Sl), ρ[i]? = some s → isOwn s = true → σ[i]? ≠ some (some (.ref a))) : Rel Z F ρ S β σ (upd H a (.frz o (.lst xs))) := by
  have ev1 : Ev β H β (upd H a (.frz o (.lst xs))) → True := fun _ => trivial
  have rp : ∀ {d : D} {v : V}, Rep Z β H v d → Rep Z β (upd H a (.frz o (.lst xs))) v d := by
    have kT : ∀ {b : Addr} {ys : List V}, SqT Z.K H b ys → SqT Z.K (upd H a (.frz o (.lst xs))) b ys := fun {b ys} q => by
      rcases q with (q | ⟨u, q⟩) | q
      · exact .inl (.inl (by rw [upd_ne (fun c => by rw [c, ha] at q; cases q)]; exact q))
      · exact .inl (.inr ⟨u, by rw [upd_ne (fun c => by rw [c, ha] at q; cases q)]; exact q⟩)
      · exact .inr q
    have kL : ∀ {b : Addr} {ys : List V}, ImL Z.K H b ys → ImL Z.K (upd H a (.frz o (.lst xs))) b ys := fun {b ys} q => by
      rcases q with ⟨u, q⟩ | q
      · exact .inl ⟨u, by rw [upd_ne (fun c => by rw [c, ha] at q; cases q)]; exact q⟩
      · exact .inr q
    intro d
    exact Rep.rec (motive_1 := fun v d _ => Rep Z β (upd H a (.frz o (.lst xs))) v d) (motive_2 := fun vs l _ => Reps Z β (upd H a (.frz o (.lst xs))) vs l)
      .non .bl .int .str (fun q _ r => .tup (kT q) r) (fun q _ r => .lst (kL q) r) .obj .fn .adr .nil (fun _ _ r t => .cons r t)
  have rps : ∀ {vs : List V} {l : List D}, Reps Z β H vs l → Reps Z β (upd H a (.frz o (.lst xs))) vs l := fun {vs l} r => by
    induction vs generalizing l with
    | nil => cases r; exact .nil
    | cons v vs ih => cases r with | cons r t => exact .cons (rp r) (ih t)
  refine ⟨⟨h.sto.len, h.sto.nd, fun n so q => ?_⟩, ⟨h.ev.pre, h.ev.fresh, fun b u e c => ?_, fun b e => ?_⟩, fun p hp => ?_, h.len, fun i sl q => ?_, h.own⟩
  · obtain ⟨b, h1, h2⟩ := h.sto.at_ n so q
    have nba : b ≠ a := fun c => nb (c ▸ List.mem_of_getElem? h1)
    refine ⟨b, h1, ?_⟩
    cases so with
    | cell l => obtain ⟨vs, g1, g2⟩ := h2; exact ⟨vs, by rw [upd_ne nba]; exact g1, rps g2⟩
    | ins C fs =>
      obtain ⟨Ca, dx, fvs, g1, g2, g3⟩ := h2
      refine ⟨Ca, dx, fvs, g1, by rw [upd_ne nba]; exact g2, ?_⟩
      exact Paired.mapP g3 fun p q r => ⟨r.1, rp r.2⟩
  · rw [upd_ne (fun z => by rw [z, n0] at e; cases e)]; exact h.ev.keep b u e c
  · by_cases hb : b = a
    · rw [hb, upd_same] at e; cases e
    · rw [upd_ne hb] at e; exact h.ev.dom b e
  · obtain ⟨ps, q1, q2, q3⟩ := h.tab p hp
    refine ⟨ps, by rw [upd_ne (fun z => by rw [z, ha] at q1; cases q1)]; exact q1, q2, fun pos cv hc => ?_⟩
    obtain ⟨c, e1, e2⟩ := q3 pos cv hc
    exact ⟨c, e1, by rw [upd_ne (fun z => by rw [z, ha] at e2; unfold LamX.CodeO at e2; cases e2)]; exact e2⟩
  · have r := h.slot i sl q
    cases sl with
    | un => trivial
    | val d => obtain ⟨x, h1, h2⟩ := r; exact ⟨x, h1, rp h2⟩
    | od k => exact r
    | ol l =>
      obtain ⟨b, vs, h1, h2, h3, h4⟩ := r
      exact ⟨b, vs, h1, by rw [upd_ne (fun z => ns i _ q rfl (by rw [h1, z]))]; exact h2, rps h3, h4⟩

def ExR (Z : Wd) (β : List Addr) (H : Hp) (cls : Value) (dd : Option Addr) (x : Exn) : Prop :=
  ∃ C, Z.mg x.cls = some (.ref C) ∧ cls = .ref C ∧ match x.fld with
    | none => dd = none
    | some (f, d) => ∃ a v, dd = some a ∧ H a = some (.xd [(f, v)]) ∧ Rep Z β H v d

abbrev RR (V' α : Type) := Hp → List Addr → Hp → V' → α → Prop
def Post {V' α : Type} (Z : Wd) (F : Fr) (W : WX) (ρ : Env) (σ : L2.St) (β : List Addr) (H : Hp) (R : RR V' α) (res : Res α) (Q : V' → Hp → Prop) : Prop := match res with
  | .ok d S' => ∀ v H' β', Rel Z F ρ S' β' σ H' → Ev β H β' H' → R H β' H' v d → Q v H'
  | .exc x S' => ∀ cls dd H' β', Rel Z F ρ S' β' σ H' → Ev β H β' H' → ExR Z β' H' cls dd x → W cls dd σ H'
  | .stuck => False
def tG {V' α : Type} (Z : Wd) (F : Fr) (W : WX) (R : RR V' α) (r : Env → Sto → Res α) : L2.St → Hp → (V' → Hp → Prop) → Prop := fun σ H Q =>
  ∃ ρ S β, Rel Z F ρ S β σ H ∧ Post Z F W ρ σ β H R (r ρ S) Q
/-- a relation that forgets what was ahead -/
def Anti {V' α : Type} (R : RR V' α) : Prop := ∀ β H β1 H1 β2 H2 v d, Ev β H β1 H1 → R H1 β2 H2 v d → R H β2 H2 v d
theorem Post.mono {V' α : Type} {Z : Wd} {F : Fr} {W : WX} {ρ : Env} {σ : L2.St} {β : List Addr} {H : Hp} {R : RR V' α} {res : Res α} {Q Q' : V' → Hp → Prop} (h : Post Z F W ρ σ β H R res Q) (m : ∀ v H', Q v H' → Q' v H') : Post Z F W ρ σ β H R res Q' := by
  cases res with
  | ok d S' => exact fun v H' β' a b c => m _ _ (h v H' β' a b c)
  | exc x S' => exact h
  | stuck => exact h
theorem Post.later {V' α : Type} {Z : Wd} {F : Fr} {W : WX} {ρ : Env} {σ : L2.St} {β β1 : List Addr} {H H1 : Hp} {R : RR V' α} {res : Res α} {Q : V' → Hp → Prop} (an : Anti R) (e : Ev β H β1 H1) (h : Post Z F W ρ σ β H R res Q) : Post Z F W ρ σ β1 H1 R res Q := by
  cases res with
  | ok d S' => exact fun v H' β' a b c => h v H' β' a (e.trans b) (an _ _ _ _ _ _ _ _ e c)
  | exc x S' => exact fun cls dd H' β' a b c => h cls dd H' β' a (e.trans b) c
  | stuck => exact h
theorem tG_mono {V' α : Type} {Z : Wd} {F : Fr} {W : WX} {R : RR V' α} {r : Env → Sto → Res α} {σ : L2.St} {H : Hp} {Q Q' : V' → Hp → Prop} (h : tG Z F W R r σ H Q) (m : ∀ v H', Q v H' → Q' v H') : tG Z F W R r σ H Q' := by
  obtain ⟨ρ, S, β, h1, h2⟩ := h
  exact ⟨ρ, S, β, h1, h2.mono m⟩
/-- one after another -/
theorem tG_bind {V' V2 α α2 : Type} {Z : Wd} {F : Fr} {W : WX} {R1 : RR V' α} {R2 : RR V2 α2} {r1 : Env → Sto → Res α} {k : α → Sto → Res α2} {ρ : Env} {S : Sto} {β : List Addr} {σ : L2.St} {H : Hp} {Q : V2 → Hp → Prop} (an : Anti R2)
    (hr : Rel Z F ρ S β σ H) (h : Post Z F W ρ σ β H R2 ((r1 ρ S).bind k) Q) {Q1 : V' → Hp → Prop}
    (hq : ∀ x H1 d S1 β1, Rel Z F ρ S1 β1 σ H1 → Ev β H β1 H1 → R1 H β1 H1 x d → Post Z F W ρ σ β1 H1 R2 (k d S1) Q → Q1 x H1) : tG Z F W R1 r1 σ H Q1 := by
  refine ⟨ρ, S, β, hr, ?_⟩
  cases e : r1 ρ S with
  | ok d S1 =>
    rw [e] at h
    exact fun v H' β' a b c => hq v H' d S1 β' a b c (Post.later an b h)
  | exc x S1 => rw [e] at h; exact h
  | stuck => rw [e] at h; exact h
/-- the end -/
theorem tG_end {V' α : Type} {Z : Wd} {F : Fr} {W : WX} {R : RR V' α} {d : α} {ρ : Env} {S : Sto} {β : List Addr} {σ : L2.St} {H : Hp} {Q : V' → Hp → Prop} (hr : Rel Z F ρ S β σ H) (h : Post Z F W ρ σ β H R (.ok d S) Q) {v : V'} {H' : Hp} (e : Same H H') (r : R H β H' v d) : Q v H' :=
  h v H' β (hr.same e) (.of e) r

def LsR (Z : Wd) (β : List Addr) (H : Hp) (v : V) (l : List D) : Prop := ∃ a vs, v = .ref a ∧ Reps Z β H vs l ∧ ((H a = some (.lst vs) ∧ a ∉ β) ∨ ImL Z.K H a vs)
theorem LsR.mono {Z : Wd} {β β' : List Addr} {H H' : Hp} {v : V} {l : List D} (x : Ev β H β' H') (h : LsR Z β H v l) : LsR Z β' H' v l := by
  obtain ⟨a, vs, e, r, h⟩ := h
  refine ⟨a, vs, e, r.mono x, ?_⟩
  rcases h with ⟨h, n⟩ | h
  · exact .inl ⟨x.keep a _ h (.inr ⟨n, rfl⟩), x.notin h n⟩
  · exact .inr (x.imL h)
theorem LsR.sq {Z : Wd} {β : List Addr} {H : Hp} {v : V} {l : List D} (h : LsR Z β H v l) : ∃ a vs, v = .ref a ∧ Reps Z β H vs l ∧ SqL Z.K H a vs := by
  obtain ⟨a, vs, e, r, h⟩ := h
  refine ⟨a, vs, e, r, ?_⟩
  rcases h with ⟨h, n⟩ | h
  · exact .of h
  · exact h.sq
abbrev RF (Z : Wd) : RR V D := fun _ β' H' v d => Rep Z β' H' v d
/-- frozen data, or a list that is a slot's own or new -/
def RXp (Z : Wd) (β : List Addr) (H : Hp) (v : V) (d : D) : Prop := Rep Z β H v d ∨ ∃ l, d = .lst l ∧ LsR Z β H v l
theorem RXp.mono {Z : Wd} {β β' : List Addr} {H H' : Hp} {v : V} {d : D} (x : Ev β H β' H') (h : RXp Z β H v d) : RXp Z β' H' v d := by
  rcases h with h | ⟨l, e, h⟩
  · exact .inl (h.mono x)
  · exact .inr ⟨l, e, h.mono x⟩
theorem RXp.ls {Z : Wd} {β : List Addr} {H : Hp} {v : V} {l : List D} (h : RXp Z β H v (.lst l)) : LsR Z β H v l := by
  rcases h with h | ⟨m, e, h⟩
  · cases h with | lst a b => exact ⟨_, _, rfl, b, .inr a⟩
  · cases e; exact h
theorem RXp.rep {Z : Wd} {β : List Addr} {H : Hp} {v : V} {d : D} (h : RXp Z β H v d) (n : ∀ l, d ≠ .lst l) : Rep Z β H v d := by
  rcases h with h | ⟨l, e, h⟩
  · exact h
  · exact absurd e (n l)
abbrev RX (Z : Wd) : RR V D := fun _ β' H' v d => RXp Z β' H' v d
abbrev RO (Z : Wd) : RR V (List D) := fun H β' H' v l => ∃ a vs, v = .ref a ∧ H a = none ∧ H' a = some (.lst vs) ∧ Reps Z β' H' vs l ∧ a ∉ β'
abbrev RT : RR Bool Bool := fun _ _ _ v b => v = b
abbrev RA (Z : Wd) : RR (List V) (List D) := fun _ β' H' vs ds => Reps Z β' H' vs ds
theorem anti_F {Z : Wd} : Anti (RF Z) := fun _ _ _ _ _ _ _ _ _ h => h
theorem anti_X {Z : Wd} : Anti (RX Z) := fun _ _ _ _ _ _ _ _ _ h => h
theorem anti_T : Anti RT := fun _ _ _ _ _ _ _ _ _ h => h
theorem anti_A {Z : Wd} : Anti (RA Z) := fun _ _ _ _ _ _ _ _ _ h => h
theorem anti_O {Z : Wd} : Anti (RO Z) := fun _ _ _ _ _ _ _ _ e ⟨a, vs, h1, h2, h3⟩ => ⟨a, vs, h1, e.dom a h2, h3⟩

/-- frozen data; a new list; a list to read; a test; arguments -/
abbrev VF (X : Cx) (F : Fr) (W : WX) (e : Expr) (r : Env → Sto → Res D) : Prop := PE X e (tG (zX X F) F W (RF (zX X F)) r)
abbrev VO (X : Cx) (F : Fr) (W : WX) (e : Expr) (r : Env → Sto → Res (List D)) : Prop := PE X e (tG (zX X F) F W (RO (zX X F)) r)
abbrev VX (X : Cx) (F : Fr) (W : WX) (e : Expr) (r : Env → Sto → Res D) : Prop := PE X e (tG (zX X F) F W (RX (zX X F)) r)
abbrev VT (X : Cx) (F : Fr) (W : WX) (e : Expr) (r : Env → Sto → Res Bool) : Prop := PT X e (tG (zX X F) F W RT r)
abbrev VA (X : Cx) (F : Fr) (W : WX) (es : List Expr) (r : Env → Sto → Res (List D)) : Prop := PA X es (tG (zX X F) F W (RA (zX X F)) r)
theorem pe_imp {X : Cx} {e : Expr} {t t' : TE} (h : PE X e t) (m : ∀ σ H Q, t' σ H Q → t σ H Q) : PE X e t' := ⟨fun pins s σ H Q I q => h.run pins s σ H Q I (m _ _ _ q)⟩
theorem pt_imp {X : Cx} {e : Expr} {t t' : TT} (h : PT X e t) (m : ∀ σ H Q, t' σ H Q → t σ H Q) : PT X e t' := ⟨fun pins s σ H Q I q => h.run pins s σ H Q I (m _ _ _ q)⟩
theorem pa_imp {X : Cx} {es : List Expr} {t t' : TA} (h : PA X es t) (m : ∀ σ H Q, t' σ H Q → t σ H Q) : PA X es t' := ⟨fun pos pins s σ H Q I q => h.run pos pins s σ H Q I (m _ _ _ q)⟩
theorem ps_imp {X : Cx} {st : Stmt} {t t' : TS} (h : PS X st t) (m : ∀ D σ H, t' D σ H → t D σ H) : PS X st t' := ⟨fun pins s σ H D I q => h.run pins s σ H D I (m _ _ _ q)⟩
theorem pss_imp {X : Cx} {st : List Stmt} {t t' : TS} (h : PSs X st t) (m : ∀ D σ H, t' D σ H → t D σ H) : PSs X st t' := ⟨fun pins s σ H D I q => h.run pins s σ H D I (m _ _ _ q)⟩

section
variable {X : Cx} {F : Fr} {W : WX} {e : Expr}
@[simp] def rUp (r : Env → Sto → Res (List D)) : Env → Sto → Res D := fun ρ S => (r ρ S).bind fun l S' => .ok (.lst l) S'
theorem vx_of_vo {r : Env → Sto → Res (List D)} (h : VO X F W e r) : VX X F W e (rUp r) := pe_imp h fun σ H Q q => by
  obtain ⟨ρ, S, β, hr, hp⟩ := q
  refine tG_bind anti_X hr hp fun x H1 d S1 β1 a b c p => ?_
  obtain ⟨z, vs, h1, h2, h3, h4, h5⟩ := c
  exact tG_end a p (Same.refl _) (.inr ⟨_, rfl, z, vs, h1, h4, .inl ⟨h3, h5⟩⟩)
theorem vx_of_vf {r : Env → Sto → Res D} (h : VF X F W e r) : VX X F W e r := pe_imp h fun σ H Q q => by
  obtain ⟨ρ, S, β, hr, hp⟩ := q
  refine ⟨ρ, S, β, hr, ?_⟩
  cases e : r ρ S with
  | ok d S' =>
    rw [e] at hp
    exact fun v H' β' a b c => hp v H' β' a b (.inl c)
  | exc x S' => rw [e] at hp; exact hp
  | stuck => rw [e] at hp; exact hp
/-- a new list becomes data -/
@[simp] def rFz (r : Env → Sto → Res (List D)) : Env → Sto → Res D := fun ρ S => (r ρ S).bind fun l S' => .ok (.lst l) S'
theorem vf_of_vo {r : Env → Sto → Res (List D)} (h : VO X F W e r) : VF X F W e (rFz r) := by
  refine ⟨fun pins s σ H Q I q => ?_⟩
  obtain ⟨ρ, S, β, hr, hp⟩ := q
  have hp : Post (zX X F) F W ρ σ β H (RF (zX X F)) ((r ρ S).bind fun l S' => .ok (.lst l) S') Q := hp
  refine thn (h.run pins s σ H (fun v H' => ∀ o, (∃ a xs, v = .ref a ∧ H' a = some (.lst xs) ∧ Q v (upd H' a (.frz o (.lst xs))))) I ?_) fun v s1 ⟨x, H1, I1, r1, q1⟩ => ?_
  · refine ⟨ρ, S, β, hr, ?_⟩
    cases e : r ρ S with
    | ok l S' =>
      rw [e] at hp
      intro v H' β' a b c o
      obtain ⟨x, vs, h1, h2, h3, h4, h5⟩ := c
      refine ⟨x, vs, h1, h3, ?_⟩
      have n0 : F.H0 x = none := hr.ev.dom x h2
      have rel2 := a.frz (o := o) h3 h5 n0 fun i s e1 e2 e3 => by
        obtain ⟨ys, z⟩ := hr.ownAt e1 e2 e3
        rw [h2] at z; cases z
      have ev2 : Ev β H β' (upd H' x (.frz o (.lst vs))) := ⟨b.pre, b.fresh, fun y u k c => by rw [upd_ne (fun z => by rw [z, h2] at k; cases k)]; exact b.keep y u k c, fun y k => by
        by_cases hy : y = x
        · rw [hy, upd_same] at k; cases k
        · rw [upd_ne hy] at k; exact b.dom y k⟩
      refine hp v _ β' rel2 ev2 ?_
      subst h1
      refine Rep.lst (.inl ⟨o, upd_same⟩) ?_
      have key := fun (z : Rel (zX X F) F ρ S' β' σ H') => z
      -- the items stand on
      have rp : ∀ {ws : List V} {m : List D}, Reps (zX X F) β' H' ws m → Reps (zX X F) β' (upd H' x (.frz o (.lst vs))) ws m := by
        have kT : ∀ {b : Addr} {ys : List V}, SqT X.K H' b ys → SqT X.K (upd H' x (.frz o (.lst vs))) b ys := fun {b ys} q => by
          rcases q with (q | ⟨u, q⟩) | q
          · exact .inl (.inl (by rw [upd_ne (fun c => by rw [c, h3] at q; cases q)]; exact q))
          · exact .inl (.inr ⟨u, by rw [upd_ne (fun c => by rw [c, h3] at q; cases q)]; exact q⟩)
          · exact .inr q
        have kL : ∀ {b : Addr} {ys : List V}, ImL X.K H' b ys → ImL X.K (upd H' x (.frz o (.lst vs))) b ys := fun {b ys} q => by
          rcases q with ⟨u, q⟩ | q
          · exact .inl ⟨u, by rw [upd_ne (fun c => by rw [c, h3] at q; cases q)]; exact q⟩
          · exact .inr q
        intro ws m
        exact Reps.rec (motive_1 := fun v d _ => Rep (zX X F) β' (upd H' x (.frz o (.lst vs))) v d) (motive_2 := fun vs' l _ => Reps (zX X F) β' (upd H' x (.frz o (.lst vs))) vs' l)
          .non .bl .int .str (fun q _ r => .tup (kT q) r) (fun q _ r => .lst (kL q) r) .obj .fn .adr .nil (fun _ _ r t => .cons r t)
      exact rp h4
    | exc x S' => rw [e] at hp; exact hp
    | stuck => rw [e] at hp; exact hp
  · obtain ⟨a, xs, e1, e2, _⟩ := q1 ⟨.none, none, .plain, #[]⟩
    obtain ⟨o, I2⟩ := inv_freeze I1 e2
    obtain ⟨a', xs', e1', e2', q2⟩ := q1 o
    rw [e1] at e1'
    cases e1'
    rw [e2] at e2'
    cases e2'
    exact ⟨x, _, I2, r1, q2⟩
end
end VS

set_option maxHeartbeats 2000000
namespace VS
open PySem PySem.Spec PyProof.Rows L2

mutual
def py : D → PyData
  | .non => .none
  | .bl b => .bool b
  | .int i => .int i
  | .str x => .str x
  | .tup l => .tuple (pys l)
  | .lst l => .list (pys l)
  | .obj _ => .none
  | .fn _ => .none
  | .adr _ => .none
def pys : List D → List PyData
  | [] => []
  | d :: l => py d :: pys l
end
mutual
def okD : D → Bool
  | .non | .bl _ | .int _ => true
  | .str x => PyData.strOk x
  | .tup l | .lst l => okDs l
  | .obj _ | .fn _ | .adr _ => false
def okDs : List D → Bool
  | [] => true
  | d :: l => okD d && okDs l
end
mutual
def dep : D → Nat
  | .tup l | .lst l => deps l + 1
  | _ => 0
def deps : List D → Nat
  | [] => 0
  | d :: l => max (dep d) (deps l)
end
mutual
def eqB : D → D → Bool
  | .non, b => (match b with | .non => true | _ => false)
  | .bl a, b => (match b with | .bl c => a == c | .int j => (if a then 1 else 0) == j | _ => false)
  | .int i, b => (match b with | .bl c => i == (if c then 1 else 0) | .int j => i == j | _ => false)
  | .str x, b => (match b with | .str y => x == y | _ => false)
  | .tup l, b => (match b with | .tup m => eqBs l m | _ => false)
  | .lst l, b => (match b with | .lst m => eqBs l m | _ => false)
  | .obj _, _ => false
  | .fn _, _ => false
  | .adr _, _ => false
def eqBs : List D → List D → Bool
  | [], [] => true
  | a :: l, b :: m => eqB a b && eqBs l m
  | [], _ :: _ => false
  | _ :: _, [] => false
end
mutual
theorem py_lay : ∀ d : D, okD d = true → (py d).canLay0 = true
  | .non, _ => rfl
  | .bl _, _ => rfl
  | .int _, _ => rfl
  | .str x, h => by simpa [py, PyData.canLay0, okD] using h
  | .tup l, h => by simpa [py, PyData.canLay0] using pys_lay l (by simpa [okD] using h)
  | .lst l, h => by simpa [py, PyData.canLay0] using pys_lay l (by simpa [okD] using h)
  | .obj _, h => by simp [okD] at h
  | .fn _, h => by simp [okD] at h
  | .adr _, h => by simp [okD] at h
theorem pys_lay : ∀ l : List D, okDs l = true → PyData.canLayAll0 (pys l) = true
  | [], _ => rfl
  | d :: l, h => by
    have h' : okD d = true ∧ okDs l = true := by simpa [okDs] using h
    simp [pys, PyData.canLayAll0, py_lay d h'.1, pys_lay l h'.2]
end
mutual
theorem py_dep : ∀ d : D, (py d).depth = dep d
  | .non => by simp [py, PyData.depth, dep]
  | .bl _ => by simp [py, PyData.depth, dep]
  | .int _ => by simp [py, PyData.depth, dep]
  | .str _ => by simp [py, PyData.depth, dep]
  | .tup l => by simp [py, PyData.depth, dep, pys_dep l]
  | .lst l => by simp [py, PyData.depth, dep, pys_dep l]
  | .obj _ => by simp [py, PyData.depth, dep]
  | .fn _ => by simp [py, PyData.depth, dep]
  | .adr _ => by simp [py, PyData.depth, dep]
theorem pys_dep : ∀ l : List D, PyData.depthAll (pys l) = deps l
  | [] => by simp [pys, PyData.depthAll, deps]
  | d :: l => by simp [pys, PyData.depthAll, deps, py_dep d, pys_dep l]
end
mutual
theorem py_eqv : ∀ a b : D, okD a = true → okD b = true → PyData.eqv (py a) (py b) = eqB a b
  | .non, b, _, hb => by cases b <;> simp_all [py, PyData.eqv, eqB, okD]
  | .bl _, b, _, hb => by cases b <;> simp_all [py, PyData.eqv, eqB, okD]
  | .int _, b, _, hb => by cases b <;> simp_all [py, PyData.eqv, eqB, okD]
  | .str _, b, _, hb => by cases b <;> simp_all [py, PyData.eqv, eqB, okD]
  | .tup l, b, ha, hb => by
    cases b with
    | tup m => simpa [py, PyData.eqv, eqB] using pys_eqv l m (by simpa [okD] using ha) (by simpa [okD] using hb)
    | _ => simp_all [py, PyData.eqv, eqB, okD]
  | .lst l, b, ha, hb => by
    cases b with
    | lst m => simpa [py, PyData.eqv, eqB] using pys_eqv l m (by simpa [okD] using ha) (by simpa [okD] using hb)
    | _ => simp_all [py, PyData.eqv, eqB, okD]
  | .obj _, b, ha, _ => by simp [okD] at ha
  | .fn _, b, ha, _ => by simp [okD] at ha
  | .adr _, b, ha, _ => by simp [okD] at ha
theorem pys_eqv : ∀ l m : List D, okDs l = true → okDs m = true → PyData.eqvAll (pys l) (pys m) = eqBs l m
  | [], [], _, _ => by simp [pys, PyData.eqvAll, eqBs]
  | [], _ :: _, _, _ => by simp [pys, PyData.eqvAll, eqBs]
  | _ :: _, [], _, _ => by simp [pys, PyData.eqvAll, eqBs]
  | a :: l, b :: m, ha, hb => by
    have h1 : okD a = true ∧ okDs l = true := by simpa [okDs] using ha
    have h2 : okD b = true ∧ okDs m = true := by simpa [okDs] using hb
    simp [pys, PyData.eqvAll, eqBs, py_eqv a b h1.1 h2.1, pys_eqv l m h1.2 h2.2]
end
def shp (d : D) : Bool := okD d && decide (dep d ≤ 60)
theorem shp_ok {d : D} (h : shp d = true) : SeqAt.shaped (py d) = true := by
  unfold shp at h
  simp only [Bool.and_eq_true, decide_eq_true_eq] at h
  unfold SeqAt.shaped
  rw [py_lay d h.1, py_dep d]
  simp
  omega
mutual
theorem dp_of {Z : Wd} {β : List Addr} {H : Hp} : ∀ {d : D} {v : V}, Rep Z β H v d → okD d = true → Dp Z.K H v (py d)
  | .non, _, .non, _ => .non
  | .bl _, _, .bl _, _ => .bl _
  | .int _, _, .int _, _ => .int _
  | .str _, _, .str _, _ => .str _
  | .tup l, _, .tup h r, o => by
    rw [py]
    exact .tup h (dps_of r (by simpa [okD] using o))
  | .lst l, _, .lst h r, o => by
    rw [py]
    exact .lst h.sq (dps_of r (by simpa [okD] using o))
  | .obj _, _, _, o => by simp [okD] at o
  | .fn _, _, _, o => by simp [okD] at o
  | .adr _, _, _, o => by simp [okD] at o
theorem dps_of {Z : Wd} {β : List Addr} {H : Hp} : ∀ {l : List D} {vs : List V}, Reps Z β H vs l → okDs l = true → DpAll Z.K H vs (pys l)
  | [], _, .nil, _ => .nil
  | d :: l, _, .cons r t, o => by
    have h' : okD d = true ∧ okDs l = true := by simpa [okDs] using o
    rw [pys]
    exact .cons (dp_of r h'.1) (dps_of t h'.2)
end
theorem dpx_of {Z : Wd} {β : List Addr} {H : Hp} {d : D} {v : V} (h : RXp Z β H v d) (o : okD d = true) : Dp Z.K H v (py d) := by
  rcases h with h | ⟨l, e, h⟩
  · exact dp_of h o
  · subst e
    obtain ⟨a, vs, e2, r, q⟩ := h.sq
    subst e2
    rw [py]
    exact .lst q (dps_of r (by simpa [okD] using o))

def VOp {α γ δ : Type} (X : Cx) (F : Fr) (f : Value → Value → Sem Value) (R1 : RR V α) (R2 : RR V γ) (R3 : RR V δ) (g : α → γ → Option δ) : Prop :=
  ∃ rV : L2.R2, OpR X f rV ∧ ∀ (x y : V) (a : α) (b : γ) (c : δ) (β : List Addr) (H : Hp) (Q : VK), R1 H β H x a → R2 H β H y b → g a b = some c → (∀ z H', Same H H' → R3 H β H' z c → Q z H') → rV x y H Q
def Mon {V' α : Type} (R : RR V' α) : Prop := ∀ p p' β H β' H' v d, R p β H v d → Ev β H β' H' → R p' β' H' v d
theorem mon_F {X : Cx} {F : Fr} : Mon (RF (zX X F)) := fun _ _ _ _ _ _ _ _ h e => h.mono e
theorem mon_X {X : Cx} {F : Fr} : Mon (RX (zX X F)) := fun _ _ _ _ _ _ _ _ h e => h.mono e
/-- an op that may be undefined -/
def optR {α : Type} (o : Option α) (S : Sto) : Res α := match o with
  | some a => .ok a S
  | none => .stuck
@[simp] theorem optR_some {α : Type} (a : α) (S : Sto) : optR (some a) S = .ok a S := rfl
@[simp] theorem optR_none {α : Type} (S : Sto) : (optR none S : Res α) = .stuck := rfl
@[simp] def rBin {α γ δ : Type} (g : α → γ → Option δ) (ra : Env → Sto → Res α) (rb : Env → Sto → Res γ) : Env → Sto → Res δ := fun ρ S => (ra ρ S).bind fun a S1 => (rb ρ S1).bind fun b S2 => optR (g a b) S2
section
variable {X : Cx} {F : Fr} {W : WX} {α γ δ : Type} {R1 : RR V α} {R2 : RR V γ} {R3 : RR V δ} {g : α → γ → Option δ} {ra : Env → Sto → Res α} {rb : Env → Sto → Res γ}
/-- the reading of two operands and an operation -/
theorem bin_read {rV : L2.R2} (m1 : Mon R1) (m2 : Mon R2) (an : Anti R3)
    (hv : ∀ (x y : V) (a : α) (b : γ) (c : δ) (β : List Addr) (H : Hp) (Q : VK), R1 H β H x a → R2 H β H y b → g a b = some c → (∀ z H', Same H H' → R3 H β H' z c → Q z H') → rV x y H Q)
    {σ : L2.St} {H : Hp} {Q : VK} (q : tG (zX X F) F W R3 (rBin g ra rb) σ H Q) : tOp rV (tG (zX X F) F W R1 ra) (tG (zX X F) F W R2 rb) σ H Q := by
  obtain ⟨ρ, S, β, hr, hp⟩ := q
  refine tG_bind an hr hp fun x H1 a S1 β1 r1 e1 c1 p1 => ?_
  refine tG_bind an r1 p1 fun y H2 b S2 β2 r2 e2 c2 p2 => ?_
  cases e : g a b with
  | none => rw [e] at p2; exact p2.elim
  | some c =>
    rw [e] at p2
    refine hv x y a b c β2 H2 Q (m1 _ _ _ _ _ _ _ _ c1 e2) (m2 _ _ _ _ _ _ _ _ c2 (.refl _ _)) e fun z H' es r => ?_
    exact p2 z H' β2 (r2.same es) (.of es) r
theorem ve_bin {op : Operator} {a b : Expr} {pos : Pos} (ho : VOp X F (binaryOp op) R1 R2 R3 g) (m1 : Mon R1) (m2 : Mon R2) (an : Anti R3) (ha : PE X a (tG (zX X F) F W R1 ra)) (hb : PE X b (tG (zX X F) F W R2 rb)) :
    PE X (.BinOp a op b pos) (tG (zX X F) F W R3 (rBin g ra rb)) := by
  obtain ⟨rV, h1, h2⟩ := ho
  exact pe_imp (pe_op h1 ha hb) fun σ H Q q => bin_read m1 m2 an h2 q
theorem ve_cmp {op : CmpOp} {a b : Expr} {pos : Pos} (ho : VOp X F (compareOp op) R1 R2 R3 g) (m1 : Mon R1) (m2 : Mon R2) (an : Anti R3) (ha : PE X a (tG (zX X F) F W R1 ra)) (hb : PE X b (tG (zX X F) F W R2 rb)) (hm : behindInMarks op b = false) :
    PE X (.Compare a [op] [b] pos) (tG (zX X F) F W R3 (rBin g ra rb)) := by
  obtain ⟨rV, h1, h2⟩ := ho
  exact pe_imp (pe_cmpR h1 ha hb hm) fun σ H Q q => bin_read m1 m2 an h2 q
end
/-- of a truth value -/
def asB : D → Option Bool
  | .bl b => some b
  | _ => none
@[simp] def rB (r : Env → Sto → Res D) : Env → Sto → Res Bool := fun ρ S => (r ρ S).bind fun d S' => optR (asB d) S'
section
variable {X : Cx} {F : Fr} {W : WX} {α γ : Type} {R1 : RR V α} {R2 : RR V γ} {g : α → γ → Option D} {ra : Env → Sto → Res α} {rb : Env → Sto → Res γ}
theorem vt_read {te : TE} {r : Env → Sto → Res D} (h : ∀ σ H (Q : VK), tG (zX X F) F W (RF (zX X F)) r σ H Q → te σ H Q) {σ : L2.St} {H : Hp} {Q : Bool → Hp → Prop} (q : tG (zX X F) F W RT (rB r) σ H Q) : te σ H fun x H1 => ∃ c, x = .bl c ∧ Q c H1 := by
  obtain ⟨ρ, S, β, hr, hp⟩ := q
  refine h _ _ _ (tG_bind anti_T hr hp fun x H1 a S1 β1 r1 e1 c1 p1 => ?_)
  cases a with
  | bl b =>
    cases c1
    exact ⟨b, rfl, p1 b H1 β1 r1 (.refl _ _) rfl⟩
  | _ => exact p1.elim
theorem vt_cmp {op : CmpOp} {a b : Expr} {pos : Pos} (ho : VOp X F (compareOp op) R1 R2 (RF (zX X F)) g) (m1 : Mon R1) (m2 : Mon R2) (ha : PE X a (tG (zX X F) F W R1 ra)) (hb : PE X b (tG (zX X F) F W R2 rb)) (hm : behindInMarks op b = false) :
    VT X F W (.Compare a [op] [b] pos) (rB (rBin g ra rb)) := by
  obtain ⟨rV, h1, h2⟩ := ho
  refine pt_imp (pt_cmpR h1 ha hb hm) fun σ H Q q => ?_
  exact vt_read (te := tOp rV (tG (zX X F) F W R1 ra) (tG (zX X F) F W R2 rb)) (fun σ H Q q => bin_read m1 m2 anti_F h2 q) q
/-- an expression as a test -/
theorem vt_val {e : Expr} {r : Env → Sto → Res D} (h : VF X F W e r) (he : ∀ whole, isTrue e X.env whole = (do let v ← whole; standAt e.pos; holding [v] (truthy v)) := by intro _; rfl) : VT X F W e (rB r) :=
  pt_imp (pt_val h he) fun σ H Q q => vt_read (fun _ _ _ z => z) q
end

def lim : Nat := 1000000
theorem lim_le : lim ≤ sizeLine := by decide
def addD : D → D → Option D
  | .int i, .int j => some (.int (i + j))
  | .str x, .str y => if x.length + y.length ≤ lim then some (.str (x ++ y)) else none
  | .tup l, .tup m => if l.length + m.length ≤ lim then some (.tup (l ++ m)) else none
  | _, _ => none
def CMulI (i j : Int) : Bool := (decide (-(2 ^ 64) < i) && decide (i < 2 ^ 64)) || (decide (-(2 ^ 64) < j) && decide (j < 2 ^ 64))
def iBin (c : Int → Int → Bool) (f : Int → Int → D) : D → D → Option D
  | .int i, .int j => if c i j = true then some (f i j) else none
  | _, _ => none
def subD : D → D → Option D := iBin (fun _ _ => true) fun i j => .int (i - j)
def mulD : D → D → Option D := iBin CMulI fun i j => .int (i * j)
/-- the divisor positive, below 2 ^ 9000 -/
def divD : D → D → Option D := iBin (fun _ j => decide (0 < j) && decide (j < 1073741824)) fun i j => .int (i / j)
def modD : D → D → Option D := iBin (fun _ j => decide (0 < j)) fun i j => .int (i % j)
def powD : D → D → Option D := iBin (fun i j => decide (0 ≤ j) && (decide (j ≤ 1000) && decide (i.natAbs < 2 ^ 64))) fun i j => .int (i ^ j.toNat)
def ltI : D → D → Option D := iBin (fun _ _ => true) fun i j => .bl (decide (i < j))
def leI : D → D → Option D := iBin (fun _ _ => true) fun i j => .bl (decide (i ≤ j))
def gtI : D → D → Option D := iBin (fun _ _ => true) fun i j => .bl (decide (j < i))
def geI : D → D → Option D := iBin (fun _ _ => true) fun i j => .bl (decide (j ≤ i))
def eqD (a b : D) : Option D := if (shp a && shp b) = true then some (.bl (eqB a b)) else none
def neD (a b : D) : Option D := if (shp a && shp b) = true then some (.bl (!eqB a b)) else none
def isNon : D → Bool
  | .non => true
  | _ => false
def isND (a b : D) : Option D := match b with
  | .non => some (.bl (isNon a))
  | _ => none
def notND (a b : D) : Option D := match b with
  | .non => some (.bl (!isNon a))
  | _ => none
def isBD : D → D → Option D
  | .bl a, .bl b => some (.bl (decide (a = b)))
  | _, _ => none
def notBD : D → D → Option D
  | .bl a, .bl b => some (.bl (!decide (a = b)))
  | _, _ => none
section
variable {X : Cx} {F : Fr}
theorem vop_int {f : Value → Value → Sem Value} {C : Int → Int → Prop} {c : Int → Int → Bool} {g : Int → Int → V} {gd : Int → Int → D} (h : OpR X f (rI C g)) (hc : ∀ i j, c i j = true → C i j) (hg : ∀ Z β H i j, Rep Z β H (g i j) (gd i j)) :
    VOp X F f (RF (zX X F)) (RF (zX X F)) (RF (zX X F)) (iBin c gd) := by
  refine ⟨_, h, fun x y a b d β H Q r1 r2 e q => ?_⟩
  cases a with
  | int i =>
    cases b with
    | int j =>
      cases r1
      cases r2
      have e : (if c i j = true then some (gd i j) else none) = some d := e
      split at e
      · rename_i z
        cases e
        exact ⟨i, j, rfl, rfl, hc i j z, q _ H (.refl _) (hg _ _ _ _ _)⟩
      · cases e
    | _ => cases e
  | _ => cases e
theorem vop_int0 {f : Value → Value → Sem Value} {g : Int → Int → V} {gd : Int → Int → D} (h : OpR X f (rI0 g)) (hg : ∀ Z β H i j, Rep Z β H (g i j) (gd i j)) : VOp X F f (RF (zX X F)) (RF (zX X F)) (RF (zX X F)) (iBin (fun _ _ => true) gd) := by
  refine ⟨_, h, fun x y a b d β H Q r1 r2 e q => ?_⟩
  cases a with
  | int i =>
    cases b with
    | int j =>
      cases r1
      cases r2
      cases e
      exact ⟨i, j, rfl, rfl, q _ H (.refl _) (hg _ _ _ _ _)⟩
    | _ => cases e
  | _ => cases e
theorem vop_sub : VOp X F (binaryOp .Sub) (RF (zX X F)) (RF (zX X F)) (RF (zX X F)) subD := vop_int0 op_sub fun _ _ _ _ _ => .int _
theorem vop_mul : VOp X F (binaryOp .Mult) (RF (zX X F)) (RF (zX X F)) (RF (zX X F)) mulD := vop_int op_mul (fun i j h => by
  unfold CMulI at h
  simp only [Bool.or_eq_true, Bool.and_eq_true, decide_eq_true_eq] at h
  exact h) fun _ _ _ _ _ => .int _
theorem vop_div : VOp X F (binaryOp .FloorDiv) (RF (zX X F)) (RF (zX X F)) (RF (zX X F)) divD := vop_int op_fdiv (fun i j h => by
  simp only [Bool.and_eq_true, decide_eq_true_eq] at h
  exact h) fun _ _ _ _ _ => .int _
theorem vop_mod : VOp X F (binaryOp .Mod) (RF (zX X F)) (RF (zX X F)) (RF (zX X F)) modD := vop_int op_mod (fun i j h => by
  simpa using h) fun _ _ _ _ _ => .int _
theorem vop_pow : VOp X F (binaryOp .Pow) (RF (zX X F)) (RF (zX X F)) (RF (zX X F)) powD := vop_int op_pow (fun i j h => by
  simp only [Bool.and_eq_true, decide_eq_true_eq] at h
  exact ⟨h.1, by omega, h.2.2⟩) fun _ _ _ _ _ => .int _
theorem vop_lt : VOp X F (compareOp .Lt) (RF (zX X F)) (RF (zX X F)) (RF (zX X F)) ltI := vop_int0 op_lt fun _ _ _ _ _ => .bl _
theorem vop_le : VOp X F (compareOp .LtE) (RF (zX X F)) (RF (zX X F)) (RF (zX X F)) leI := vop_int0 op_le fun _ _ _ _ _ => .bl _
theorem vop_gt : VOp X F (compareOp .Gt) (RF (zX X F)) (RF (zX X F)) (RF (zX X F)) gtI := vop_int0 op_gt fun _ _ _ _ _ => .bl _
theorem vop_ge : VOp X F (compareOp .GtE) (RF (zX X F)) (RF (zX X F)) (RF (zX X F)) geI := vop_int0 op_ge fun _ _ _ _ _ => .bl _
theorem vop_add : VOp X F (binaryOp .Add) (RF (zX X F)) (RF (zX X F)) (RF (zX X F)) addD := by
  refine ⟨_, op_add.or (op_add_str.or op_catA), fun x y a b d β H Q r1 r2 e q => ?_⟩
  cases a with
  | int i =>
    cases b with
    | int j =>
      cases r1
      cases r2
      cases e
      exact .inl ⟨i, j, rfl, rfl, q _ H (.refl _) (.int _)⟩
    | _ => cases e
  | str i =>
    cases b with
    | str j =>
      cases r1
      cases r2
      have e : (if i.length + j.length ≤ lim then some (D.str (i ++ j)) else none) = some d := e
      split at e
      · rename_i z
        cases e
        exact .inr (.inl ⟨i, j, rfl, rfl, Nat.le_trans z lim_le, q _ H (.refl _) (.str _)⟩)
      · cases e
    | _ => cases e
  | tup l =>
    cases b with
    | tup m =>
      have e : (if l.length + m.length ≤ lim then some (D.tup (l ++ m)) else none) = some d := e
      split at e
      · rename_i z
        cases e
        cases r1 with
        | tup h1 g1 =>
          cases r2 with
          | tup h2 g2 =>
            rename_i a xs b ys
            refine .inr (.inr ⟨_, _, xs, ys, rfl, rfl, h1, h2, ?_, fun e => ?_, fun e e2 => ?_, fun e e2 p hp => ?_⟩)
            · rw [g1.length, g2.length]; exact Nat.le_trans z lim_le
            · subst e; cases g1; exact q _ H (.refl _) (.tup h2 g2)
            · subst e2
              cases g2
              rw [List.append_nil] at q
              exact q _ H (.refl _) (.tup h1 g1)
            · exact q _ _ (.new hp) (.tup (.of upd_same) ((g1.append g2).mono (.of (.new hp))))
      · cases e
    | _ => cases e
  | _ => cases e
/-- lists -/
def catL (a b : D) : Option (List D) := match a, b with
  | .lst l, .lst m => if l.length + m.length ≤ lim then some (l ++ m) else none
  | _, _ => none
theorem rep_eq {f g : Value → Value → Sem Value} {r : L2.R2} (h : OpR X f r) (e : f = g) : OpR X g r := by rw [← e]; exact h
theorem vop_eq (hu : X.A.units + 64 < cLine) : VOp X F (compareOp .Eq) (RX (zX X F)) (RX (zX X F)) (RF (zX X F)) eqD := by
  refine ⟨_, op_eqD hu, fun x y a b d β H Q r1 r2 e q => ?_⟩
  unfold eqD at e
  split at e
  · rename_i z
    cases e
    rw [Bool.and_eq_true] at z
    have o1 : okD a = true := (Bool.and_eq_true_iff.mp z.1).1
    have o2 : okD b = true := (Bool.and_eq_true_iff.mp z.2).1
    refine ⟨py a, py b, dpx_of r1 o1, dpx_of r2 o2, shp_ok z.1, shp_ok z.2, ?_⟩
    rw [py_eqv a b o1 o2]
    exact q _ H (.refl _) (.bl _)
  · cases e
theorem vop_ne (hu : X.A.units + 64 < cLine) : VOp X F (compareOp .NotEq) (RX (zX X F)) (RX (zX X F)) (RF (zX X F)) neD := by
  refine ⟨_, op_neD hu, fun x y a b d β H Q r1 r2 e q => ?_⟩
  unfold neD at e
  split at e
  · rename_i z
    cases e
    rw [Bool.and_eq_true] at z
    have o1 : okD a = true := (Bool.and_eq_true_iff.mp z.1).1
    have o2 : okD b = true := (Bool.and_eq_true_iff.mp z.2).1
    refine ⟨py a, py b, dpx_of r1 o1, dpx_of r2 o2, shp_ok z.1, shp_ok z.2, ?_⟩
    rw [py_eqv a b o1 o2]
    exact q _ H (.refl _) (.bl _)
  · cases e
theorem rep_non {Z : Wd} {β : List Addr} {H : Hp} {x : V} {a : D} (r : RXp Z β H x a) : decide (x = .non) = isNon a := by
  rcases r with r | ⟨l, e, r⟩
  · cases r <;> rfl
  · subst e
    obtain ⟨p, vs, e, _⟩ := r
    subst e
    rfl
theorem vop_isN : VOp X F (compareOp .Is) (RX (zX X F)) (RF (zX X F)) (RF (zX X F)) isND := by
  refine ⟨_, op_isN, fun x y a b d β H Q r1 r2 e q => ?_⟩
  cases b with
  | non =>
    cases r2
    unfold isND at e
    cases e
    refine ⟨rfl, ?_⟩
    rw [rep_non r1]
    exact q _ H (.refl _) (.bl _)
  | _ => cases e
theorem vop_notN : VOp X F (compareOp .IsNot) (RX (zX X F)) (RF (zX X F)) (RF (zX X F)) notND := by
  refine ⟨_, op_notN, fun x y a b d β H Q r1 r2 e q => ?_⟩
  cases b with
  | non =>
    cases r2
    unfold notND at e
    cases e
    refine ⟨rfl, ?_⟩
    rw [rep_non r1]
    exact q _ H (.refl _) (.bl _)
  | _ => cases e
theorem vop_isB : VOp X F (compareOp .Is) (RF (zX X F)) (RF (zX X F)) (RF (zX X F)) isBD := by
  refine ⟨_, op_isBl, fun x y a b d β H Q r1 r2 e q => ?_⟩
  cases a with
  | bl i =>
    cases b with
    | bl j => cases r1; cases r2; cases e; exact ⟨i, j, rfl, rfl, q _ H (.refl _) (.bl _)⟩
    | _ => cases e
  | _ => cases e
theorem vop_notB : VOp X F (compareOp .IsNot) (RF (zX X F)) (RF (zX X F)) (RF (zX X F)) notBD := by
  refine ⟨_, op_notBl, fun x y a b d β H Q r1 r2 e q => ?_⟩
  cases a with
  | bl i =>
    cases b with
    | bl j => cases r1; cases r2; cases e; exact ⟨i, j, rfl, rfl, q _ H (.refl _) (.bl _)⟩
    | _ => cases e
  | _ => cases e
end
end VS

set_option maxHeartbeats 2000000
namespace VS
open PySem PySem.Spec PyProof.Rows L2

@[simp] def rVar (i : Nat) : Env → Sto → Res D := fun ρ S => match ρ[i]? with
  | some (.val d) => .ok d S
  | _ => .stuck
@[simp] def rOwn (i : Nat) : Env → Sto → Res D := fun ρ S => match ρ[i]? with
  | some (.ol l) => .ok (.lst l) S
  | some (.val d) => .ok d S
  | _ => .stuck
@[simp] def rC {α : Type} (d : α) : Env → Sto → Res α := fun _ S => .ok d S
section
variable {X : Cx} {F : Fr} {W : WX} {x : Str} {pos : Pos} {i : Nat}
theorem ve_var (hN : X.N[i]? = some x) (hv : Vis X.env.scope x) (hd : (x == ("__debug__" : Str)) = false := by decide) (hcd : (x == ("__classdict__" : Str)) = false := by decide) : VF X F W (.Name x pos) (rVar i) :=
  pe_imp (pe_var hN hv hd hcd) fun σ H Q q => by
    obtain ⟨ρ, S, β, hr, hp⟩ := q
    unfold rVar at hp
    split at hp
    · rename_i d e
      obtain ⟨v, e1, r⟩ := hr.slot i _ e
      exact ⟨v, e1, tG_end hr hp (.refl _) r⟩
    · exact hp.elim
theorem ve_own (hN : X.N[i]? = some x) (hv : Vis X.env.scope x) (hd : (x == ("__debug__" : Str)) = false := by decide) (hcd : (x == ("__classdict__" : Str)) = false := by decide) : VX X F W (.Name x pos) (rOwn i) :=
  pe_imp (pe_var hN hv hd hcd) fun σ H Q q => by
    obtain ⟨ρ, S, β, hr, hp⟩ := q
    unfold rOwn at hp
    split at hp
    · rename_i d e
      obtain ⟨a, vs, e1, h1, h2, h3, _⟩ := hr.slot i _ e
      exact ⟨_, e1, tG_end hr hp (.refl _) (.inr ⟨_, rfl, a, vs, rfl, h2, .inl ⟨h1, h3⟩⟩)⟩
    · rename_i d e
      obtain ⟨v, e1, r⟩ := hr.slot i _ e
      exact ⟨v, e1, tG_end hr hp (.refl _) (.inl r)⟩
    · exact hp.elim
theorem ve_c {e : Expr} {v : V} {d : D} (h : PE X e (tC v)) (r : ∀ β H, Rep (zX X F) β H v d) : VF X F W e (rC d) := pe_imp h fun σ H Q q => by
  obtain ⟨ρ, S, β, hr, hp⟩ := q
  exact tG_end hr hp (.refl _) (r β H)
theorem ve_int {k : Int} {j : Nat} : VF X F W (.Constant (.int k) j pos) (rC (.int k)) := ve_c pe_int fun _ _ => .int k
theorem ve_bl {b : Bool} {j : Nat} : VF X F W (.Constant (.bool b) j pos) (rC (.bl b)) := ve_c pe_bl fun _ _ => .bl b
theorem ve_non {j : Nat} : VF X F W (.Constant .none j pos) (rC .non) := ve_c pe_non fun _ _ => .non
theorem ve_str {z : Str} {j : Nat} : VF X F W (.Constant (.str z) j pos) (rC (.str z)) := ve_c pe_str fun _ _ => .str z
/-- a module's constant -/
structure Gc (K : PySem.W.Frag) (mg : Str → Option Value) (x : Str) (d : D) : Prop where
  ex : ∃ (v : V) (u : Value), mg x = some u ∧ RelV v u ∧ ∀ T β H, Rep ⟨K, mg, T⟩ β H v d
theorem ve_glob {d : D} (g : Gc X.K X.mg x d) (hg : Gl X x := by rfl) (hd : (x == ("__debug__" : Str)) = false := by decide) : VF X F W (.Name x pos) (rC d) := by
  obtain ⟨v, u, h1, h2, h3⟩ := g.ex
  exact ve_c (pe_glob hg h1 h2 hd) fun β H => h3 _ β H
/-- a def as a value -/
theorem ve_fn {f : Addr} (h : X.mg x = some (.ref f)) (hg : Gl X x := by rfl) (hd : (x == ("__debug__" : Str)) = false := by decide) : VF X F W (.Name x pos) (rC (.fn x)) := ve_c (pe_glob (v := .ref f) hg h rfl hd) fun _ _ => .fn h
end

@[simp] def rAnd (a b : Env → Sto → Res Bool) : Env → Sto → Res Bool := fun ρ S => (a ρ S).bind fun c S1 => if c = true then b ρ S1 else .ok false S1
@[simp] def rOr (a b : Env → Sto → Res Bool) : Env → Sto → Res Bool := fun ρ S => (a ρ S).bind fun c S1 => if c = true then .ok true S1 else b ρ S1
@[simp] def rNot (a : Env → Sto → Res Bool) : Env → Sto → Res Bool := fun ρ S => (a ρ S).bind fun c S1 => .ok (!c) S1
@[simp] def rAndV (a b : Env → Sto → Res D) : Env → Sto → Res D := fun ρ S => (a ρ S).bind fun c S1 => match c with
  | .bl c => if c = true then b ρ S1 else .ok (.bl false) S1
  | _ => .stuck
@[simp] def rOrV (a b : Env → Sto → Res D) : Env → Sto → Res D := fun ρ S => (a ρ S).bind fun c S1 => match c with
  | .bl c => if c = true then .ok (.bl true) S1 else b ρ S1
  | _ => .stuck
@[simp] def rNotV (a : Env → Sto → Res D) : Env → Sto → Res D := fun ρ S => (a ρ S).bind fun c S1 => match c with
  | .bl c => .ok (.bl (!c)) S1
  | _ => .stuck
@[simp] def rIf {α : Type} (t : Env → Sto → Res Bool) (a b : Env → Sto → Res α) : Env → Sto → Res α := fun ρ S => (t ρ S).bind fun c S1 => if c = true then a ρ S1 else b ρ S1
section
variable {X : Cx} {F : Fr} {W : WX} {a b c : Expr} {rest : List Expr} {pos : Pos} {ra rb : Env → Sto → Res Bool} {va vb : Env → Sto → Res D}
abbrev VW (X : Cx) (F : Fr) (W : WX) (e : Expr) (r : Env → Sto → Res Bool) : Prop := PW X e (tG (zX X F) F W RT r)
theorem pw_imp {X : Cx} {e : Expr} {t t' : TT} (h : PW X e t) (m : ∀ σ H Q, t' σ H Q → t σ H Q) : PW X e t' := ⟨fun wh pins s σ H Q I q => h.run wh pins s σ H Q I (m _ _ _ q)⟩
theorem vw_and1 (ha : VT X F W a ra) : VW X F W (.BoolOp .And [a] pos) ra := pw_and1 ha
theorem vw_or1 (ha : VT X F W a ra) : VW X F W (.BoolOp .Or [a] pos) ra := pw_or1 ha
theorem vw_and (ha : VT X F W a ra) (hb : VW X F W (.BoolOp .And (b :: rest) pos) rb) : VW X F W (.BoolOp .And (a :: b :: rest) pos) (rAnd ra rb) := pw_imp (pw_and ha hb) fun σ H Q q => by
  obtain ⟨ρ, S, β, hr, hp⟩ := q
  refine tG_bind anti_T hr hp fun x H1 d S1 β1 r1 e1 c1 p1 => ?_
  cases c1
  cases x with
  | true => exact ⟨ρ, S1, β1, r1, p1⟩
  | false => exact p1 false H1 β1 r1 (.refl _ _) rfl
theorem vw_or (ha : VT X F W a ra) (hb : VW X F W (.BoolOp .Or (b :: rest) pos) rb) : VW X F W (.BoolOp .Or (a :: b :: rest) pos) (rOr ra rb) := pw_imp (pw_or ha hb) fun σ H Q q => by
  obtain ⟨ρ, S, β, hr, hp⟩ := q
  refine tG_bind anti_T hr hp fun x H1 d S1 β1 r1 e1 c1 p1 => ?_
  cases c1
  cases x with
  | false => exact ⟨ρ, S1, β1, r1, p1⟩
  | true => exact p1 true H1 β1 r1 (.refl _ _) rfl
theorem vt_w {e : Expr} (h : VW X F W e ra) : VT X F W e ra := h.pt
theorem vt_not (ha : VT X F W a ra) : VT X F W (.UnaryOp .Not a pos) (rNot ra) := pt_imp (pt_not ha) fun σ H Q q => by
  obtain ⟨ρ, S, β, hr, hp⟩ := q
  refine tG_bind anti_T hr hp fun x H1 d S1 β1 r1 e1 c1 p1 => ?_
  cases c1
  exact p1 _ H1 β1 r1 (.refl _ _) rfl
theorem ve_one {op : _} (h : VF X F W a va) : VF X F W (.BoolOp op [a] pos) va := pe_one h
theorem ve_and (ha : VF X F W a va) (hb : VF X F W (.BoolOp .And (b :: rest) pos) vb) : VF X F W (.BoolOp .And (a :: b :: rest) pos) (rAndV va vb) := pe_imp (pe_and ha hb) fun σ H Q q => by
  obtain ⟨ρ, S, β, hr, hp⟩ := q
  refine tG_bind anti_F hr hp fun x H1 d S1 β1 r1 e1 c1 p1 => ?_
  cases c1 with
  | bl b =>
    refine ⟨b, rfl, ?_⟩
    cases b with
    | true => exact ⟨ρ, S1, β1, r1, p1⟩
    | false => exact p1 _ H1 β1 r1 (.refl _ _) (.bl _)
  | _ => exact p1.elim
theorem ve_or (ha : VF X F W a va) (hb : VF X F W (.BoolOp .Or (b :: rest) pos) vb) : VF X F W (.BoolOp .Or (a :: b :: rest) pos) (rOrV va vb) := pe_imp (pe_or ha hb) fun σ H Q q => by
  obtain ⟨ρ, S, β, hr, hp⟩ := q
  refine tG_bind anti_F hr hp fun x H1 d S1 β1 r1 e1 c1 p1 => ?_
  cases c1 with
  | bl b =>
    refine ⟨b, rfl, ?_⟩
    cases b with
    | false => exact ⟨ρ, S1, β1, r1, p1⟩
    | true => exact p1 _ H1 β1 r1 (.refl _ _) (.bl _)
  | _ => exact p1.elim
theorem ve_not (ha : VF X F W a va) : VF X F W (.UnaryOp .Not a pos) (rNotV va) := pe_imp (pe_not ha) fun σ H Q q => by
  obtain ⟨ρ, S, β, hr, hp⟩ := q
  refine tG_bind anti_F hr hp fun x H1 d S1 β1 r1 e1 c1 p1 => ?_
  cases c1 with
  | bl b => exact ⟨b, rfl, p1 _ H1 β1 r1 (.refl _ _) (.bl _)⟩
  | _ => exact p1.elim
theorem ve_if {α : Type} {R : RR V α} {t : Env → Sto → Res Bool} {ra rb : Env → Sto → Res α} (an : Anti R) (hc : VT X F W c t) (ha : PE X a (tG (zX X F) F W R ra)) (hb : PE X b (tG (zX X F) F W R rb)) : PE X (.IfExp c a b pos) (tG (zX X F) F W R (rIf t ra rb)) := pe_imp (pe_ifExp hc ha hb) fun σ H Q q => by
  obtain ⟨ρ, S, β, hr, hp⟩ := q
  refine tG_bind an hr hp fun x H1 d S1 β1 r1 e1 c1 p1 => ?_
  cases c1
  cases x with
  | true => exact ⟨ρ, S1, β1, r1, p1⟩
  | false => exact ⟨ρ, S1, β1, r1, p1⟩
/-- a op b op' c -/
@[simp] def rChain (g g' : D → D → Option D) (a b c : Env → Sto → Res D) : Env → Sto → Res D := fun ρ S => (a ρ S).bind fun x S1 => (b ρ S1).bind fun y S2 => match g x y with
  | some (.bl k) => if k = true then (c ρ S2).bind fun z S3 => optR (g' y z) S3 else .ok (.bl false) S2
  | _ => .stuck
theorem chain_read {rV rV' : L2.R2} {g g' : D → D → Option D} {va vb vc : Env → Sto → Res D}
    (h2 : ∀ (x y : V) (a : D) (b : D) (c : D) (β : List Addr) (H : Hp) (Q : VK), RF (zX X F) H β H x a → RF (zX X F) H β H y b → g a b = some c → (∀ z H', Same H H' → RF (zX X F) H β H' z c → Q z H') → rV x y H Q)
    (h2' : ∀ (x y : V) (a : D) (b : D) (c : D) (β : List Addr) (H : Hp) (Q : VK), RF (zX X F) H β H x a → RF (zX X F) H β H y b → g' a b = some c → (∀ z H', Same H H' → RF (zX X F) H β H' z c → Q z H') → rV' x y H Q)
    {σ : L2.St} {H : Hp} {Q : VK} (q : tG (zX X F) F W (RF (zX X F)) (rChain g g' va vb vc) σ H Q) : tChain rV rV' (tG (zX X F) F W (RF (zX X F)) va) (tG (zX X F) F W (RF (zX X F)) vb) (tG (zX X F) F W (RF (zX X F)) vc) σ H Q := by
  obtain ⟨ρ, S, β, hr, hp⟩ := q
  refine tG_bind anti_F hr hp fun x H1 d1 S1 β1 r1 e1 c1 p1 => ?_
  refine tG_bind anti_F r1 p1 fun y H2 d2 S2 β2 r2 e2 c2 p2 => ?_
  cases e : g d1 d2 with
  | none => rw [e] at p2; exact p2.elim
  | some o =>
    rw [e] at p2
    refine h2 x y d1 d2 o β2 H2 _ (c1.mono e2) c2 e fun z H3 s3 r3 => ?_
    cases o with
    | bl k =>
      cases r3
      refine ⟨k, rfl, ?_⟩
      cases k with
      | true =>
        refine tG_bind anti_F (r2.same s3) (Post.later anti_F (.of s3) p2) fun w H4 d4 S4 β4 r4 e4 c4 p4 => ?_
        cases e' : g' d2 d4 with
        | none => rw [e'] at p4; exact p4.elim
        | some o' =>
          rw [e'] at p4
          exact h2' y w d2 d4 o' β4 H4 _ ((Rep.mono (.of s3) c2).mono e4) c4 e' fun z' H5 s5 r5 => p4 z' H5 β4 (r4.same s5) (.of s5) r5
      | false => exact p2 _ H3 β2 (r2.same s3) (.of s3) (.bl _)
    | _ => exact p2.elim
theorem ve_chain {op op' : CmpOp} {g g' : D → D → Option D} {va vb vc : Env → Sto → Res D} (ho : VOp X F (compareOp op) (RF (zX X F)) (RF (zX X F)) (RF (zX X F)) g) (ho' : VOp X F (compareOp op') (RF (zX X F)) (RF (zX X F)) (RF (zX X F)) g') (ha : VF X F W a va) (hb : VF X F W b vb) (hc : VF X F W c vc)
    (hm : lastMarks [op, op'] [b, c] = false := by with_unfolding_all rfl) : VF X F W (.Compare a [op, op'] [b, c] pos) (rChain g g' va vb vc) := by
  obtain ⟨rV, h1, h2⟩ := ho
  obtain ⟨rV', h1', h2'⟩ := ho'
  exact pe_imp (pe_chain h1 h1' ha hb hc hm) fun σ H Q q => chain_read h2 h2' q
theorem vt_chain {op op' : CmpOp} {g g' : D → D → Option D} {va vb vc : Env → Sto → Res D} (ho : VOp X F (compareOp op) (RF (zX X F)) (RF (zX X F)) (RF (zX X F)) g) (ho' : VOp X F (compareOp op') (RF (zX X F)) (RF (zX X F)) (RF (zX X F)) g') (ha : VF X F W a va) (hb : VF X F W b vb) (hc : VF X F W c vc)
    (hm : lastMarks [op, op'] [b, c] = false := by with_unfolding_all rfl) : VT X F W (.Compare a [op, op'] [b, c] pos) (rB (rChain g g' va vb vc)) := by
  obtain ⟨rV, h1, h2⟩ := ho
  obtain ⟨rV', h1', h2'⟩ := ho'
  exact pt_imp (pt_chain h1 h1' ha hb hc hm) fun σ H Q q => vt_read (fun _ _ _ z => chain_read h2 h2' z) q
end

@[simp] def rNil : Env → Sto → Res (List D) := fun _ S => .ok [] S
@[simp] def rCons (a : Env → Sto → Res D) (r : Env → Sto → Res (List D)) : Env → Sto → Res (List D) := fun ρ S => (a ρ S).bind fun x S1 => (r ρ S1).bind fun xs S2 => .ok (x :: xs) S2
@[simp] def rTup (r : Env → Sto → Res (List D)) : Env → Sto → Res D := fun ρ S => (r ρ S).bind fun xs S1 => .ok (.tup xs) S1
@[simp] def rLst (r : Env → Sto → Res (List D)) : Env → Sto → Res (List D) := fun ρ S => (r ρ S).bind fun xs S1 => .ok xs S1
abbrev RXs (Z : Wd) : RR (List V) (List D) := fun _ β' H' vs ds => Paired (RXp Z β' H') vs ds
theorem anti_Xs {X : Cx} {F : Fr} : Anti (RXs (zX X F)) := fun _ _ _ _ _ _ _ _ _ h => h
/-- arguments of built-ins: lists are read -/
abbrev VAX (X : Cx) (F : Fr) (W : WX) (es : List Expr) (r : Env → Sto → Res (List D)) : Prop := PA X es (tG (zX X F) F W (RXs (zX X F)) r)
section
variable {X : Cx} {F : Fr} {W : WX} {e : Expr} {es : List Expr} {pos : Pos} {a : Env → Sto → Res D} {r : Env → Sto → Res (List D)}
theorem va_nil : VA X F W [] rNil := pa_imp pa_nil fun σ H Q q => by
  obtain ⟨ρ, S, β, hr, hp⟩ := q
  exact tG_end hr hp (.refl _) .nil
theorem va_cons (ha : VF X F W e a) (hr : VA X F W es r) (hs : starEach (e :: es) X.env = (false, eval e X.env) :: starEach es X.env := by rfl) : VA X F W (e :: es) (rCons a r) := pa_imp (pa_cons ha hr hs) fun σ H Q q => by
  obtain ⟨ρ, S, β, hr, hp⟩ := q
  refine tG_bind anti_A hr hp fun x H1 d1 S1 β1 r1 e1 c1 p1 => ?_
  refine tG_bind anti_A r1 p1 fun y H2 d2 S2 β2 r2 e2 c2 p2 => ?_
  exact p2 _ H2 β2 r2 (.refl _ _) (.cons (c1.mono e2) c2)
theorem vax_nil : VAX X F W [] rNil := pa_imp pa_nil fun σ H Q q => by
  obtain ⟨ρ, S, β, hr, hp⟩ := q
  exact tG_end hr hp (.refl _) .nil
theorem vax_cons (ha : VX X F W e a) (hr : VAX X F W es r) (hs : starEach (e :: es) X.env = (false, eval e X.env) :: starEach es X.env := by rfl) : VAX X F W (e :: es) (rCons a r) := pa_imp (pa_cons ha hr hs) fun σ H Q q => by
  obtain ⟨ρ, S, β, hr, hp⟩ := q
  refine tG_bind anti_Xs hr hp fun x H1 d1 S1 β1 r1 e1 c1 p1 => ?_
  refine tG_bind anti_Xs r1 p1 fun y H2 d2 S2 β2 r2 e2 c2 p2 => ?_
  exact p2 _ H2 β2 r2 (.refl _ _) (.cons (c1.mono e2) c2)
@[simp] def chkLen (r : Env → Sto → Res (List D)) : Env → Sto → Res (List D) := fun ρ S => (r ρ S).bind fun xs S1 => if xs.length ≤ lim then .ok xs S1 else .stuck
theorem ve_tup {k : Nat} (h : VA X F W es r) : VF X F W (.Tuple es k pos) (rTup (chkLen r)) := pe_imp (pe_tup h) fun σ H Q q => by
  obtain ⟨ρ, S, β, hr, hp⟩ := q
  have hp : Post (zX X F) F W ρ σ β H (RF (zX X F)) ((r ρ S).bind fun xs S1 => (if xs.length ≤ lim then Res.ok xs S1 else .stuck).bind fun xs S1 => .ok (.tup xs) S1) Q := by
    unfold rTup chkLen at hp
    cases e : r ρ S <;> rw [e] at hp <;> exact hp
  refine tG_bind anti_F hr hp fun x H1 d1 S1 β1 r1 e1 c1 p1 => ?_
  split at p1
  · rename_i z
    refine ⟨by rw [Reps.length c1]; exact Nat.le_trans z lim_le, fun p np => ?_⟩
    exact tG_end r1 p1 (.new np) (.tup (.of upd_same) (c1.mono (.of (.new np))))
  · exact p1.elim
theorem ve_lst (h : VA X F W es r) : VO X F W (.List es pos) (chkLen r) := pe_imp (pe_lst h) fun σ H Q q => by
  obtain ⟨ρ, S, β, hr, hp⟩ := q
  refine tG_bind anti_O hr hp fun x H1 d1 S1 β1 r1 e1 c1 p1 => ?_
  split at p1
  · rename_i z
    refine ⟨by rw [Reps.length c1]; exact Nat.le_trans z lim_le, fun p np => ?_⟩
    refine tG_end r1 p1 (.new np) ⟨p, x, rfl, np, upd_same, c1.mono (.of (.new np)), r1.sto.notin np⟩
  · exact p1.elim
end
end VS

set_option maxHeartbeats 2000000
namespace VS
open PySem PySem.Spec PyProof.Rows L2

def ixD : D → D → Option D
  | .tup l, .int i => atI l i
  | .lst l, .int i => atI l i
  | .str z, .int i => if z.length ≤ lim then (atI z.cps.toList i).map fun c => .str ⟨#[c]⟩ else none
  | _, _ => none
theorem Reps.atI {Z : Wd} {β : List Addr} {H : Hp} {vs : List V} {l : List D} {i : Int} {d : D} (r : Reps Z β H vs l) (h : L2.atI l i = some d) : ∃ v, L2.atI vs i = some v ∧ Rep Z β H v d := by
  unfold L2.atI at h ⊢
  rw [r.length]
  cases e : ixN l.length i with
  | none => rw [e] at h; cases h
  | some j =>
    rw [e] at h
    exact r.get (show l[j]? = some d from h)
section
variable {X : Cx} {F : Fr} {W : WX} {a b : Expr} {pos : Pos} {ra rb : Env → Sto → Res D}
theorem ve_ix (ha : VX X F W a ra) (hb : VF X F W b rb) (hs : PlainIx b := by exact fun _ _ => rfl) : VF X F W (.Subscript a b pos) (rBin ixD ra rb) := pe_imp (pe_ix ix_seq ha hb hs) fun σ H Q q =>
  bin_read (R1 := RX (zX X F)) (R2 := RF (zX X F)) (R3 := RF (zX X F)) (rV := rIx X.K) mon_X mon_F anti_F (fun x y a b c β H Q r1 r2 e q => by
    cases b with
    | int i =>
      cases r2
      cases a with
      | tup l =>
        have r1 := r1.rep (fun l z => by cases z)
        cases r1 with
        | tup h g =>
          obtain ⟨v, e1, r⟩ := g.atI (show L2.atI l i = some c from e)
          exact .inr (.inl ⟨_, _, i, v, rfl, rfl, h, e1, q _ H (.refl _) r⟩)
      | lst l =>
        obtain ⟨p, vs, e0, g, h⟩ := r1.ls.sq
        obtain ⟨v, e1, r⟩ := g.atI (show L2.atI l i = some c from e)
        exact .inl ⟨_, _, i, v, e0, rfl, h, e1, q _ H (.refl _) r⟩
      | str z =>
        have r1 := r1.rep (fun l z => by cases z)
        cases r1
        have e : (if z.length ≤ lim then (L2.atI z.cps.toList i).map fun c => D.str ⟨#[c]⟩ else none) = some c := e
        split at e
        · rename_i hz
          cases e1 : L2.atI z.cps.toList i with
          | none => rw [e1] at e; cases e
          | some k =>
            rw [e1] at e
            cases e
            exact .inr (.inr ⟨z, i, k, rfl, rfl, Nat.le_trans hz lim_le, e1, q _ H (.refl _) (.str _)⟩)
        · cases e
      | _ => cases e
    | _ => cases a <;> cases e) q
end

def cut {α : Type} (xs : List α) (lo hi : Option Int) : List α := (xs.drop (HT.sIx xs.length 0 lo)).take (HT.sIx xs.length xs.length hi - HT.sIx xs.length 0 lo)
theorem Reps.cut {Z : Wd} {β : List Addr} {H : Hp} {vs : List V} {l : List D} {lo hi : Option Int} (r : Reps Z β H vs l) : Reps Z β H (cutV vs lo hi) (VS.cut l lo hi) := by
  unfold cutV VS.cut
  rw [r.length]
  exact (r.drop _).take _
def sliceD (d : D) (lo hi : Option Int) : Option D := match d with
  | .tup l => some (.tup (cut l lo hi))
  | .str z => if z.length ≤ lim then some (.str (cutS z lo hi)) else none
  | _ => none
def sliceL (d : D) (lo hi : Option Int) : Option (List D) := match d with
  | .lst l => some (cut l lo hi)
  | _ => none
theorem cut_whole {α : Type} {xs : List α} {lo hi : Option Int} (h1 : HT.sIx xs.length 0 lo = 0) (h2 : HT.sIx xs.length xs.length hi = xs.length) : cut xs lo hi = xs := by
  unfold cut
  rw [h1, h2]
  simp
def asI : D → Option Int
  | .int i => some i
  | _ => none
@[simp] def rPt (r : Env → Sto → Res D) : Env → Sto → Res (Option Int) := fun ρ S => (r ρ S).bind fun d S1 => optR ((asI d).map some) S1
@[simp] def rNoPt : Env → Sto → Res (Option Int) := fun _ S => .ok none S
abbrev RP : RR (Option Int) (Option Int) := fun _ _ _ v o => v = o
theorem anti_P : Anti RP := fun _ _ _ _ _ _ _ _ _ h => h
abbrev VPt (X : Cx) (F : Fr) (W : WX) (e : Option Expr) (r : Env → Sto → Res (Option Int)) : Prop := PO X e (tG (zX X F) F W RP r)
@[simp] def rSl {α : Type} (g : D → Option Int → Option Int → Option α) (r : Env → Sto → Res D) (l h : Env → Sto → Res (Option Int)) : Env → Sto → Res α := fun ρ S => (r ρ S).bind fun d S1 => (l ρ S1).bind fun lo S2 => (h ρ S2).bind fun hi S3 => optR (g d lo hi) S3
section
variable {X : Cx} {F : Fr} {W : WX} {e : Expr} {lo hi : Option Expr} {pos p2 : Pos} {r : Env → Sto → Res D} {rl rh : Env → Sto → Res (Option Int)}
theorem po_imp {e : Option Expr} {t t' : TO} (h : PO X e t) (m : ∀ σ H Q, t' σ H Q → t σ H Q) : PO X e t' := ⟨fun pins s σ H Q I q => h.run pins s σ H Q I (m _ _ _ q)⟩
theorem vp_none : VPt X F W none rNoPt := po_imp po_none fun σ H Q q => by
  obtain ⟨ρ, S, β, hr, hp⟩ := q
  exact tG_end hr hp (.refl _) rfl
theorem vp_some (h : VF X F W e r) : VPt X F W (some e) (rPt r) := po_imp (po_some h) fun σ H Q q => by
  obtain ⟨ρ, S, β, hr, hp⟩ := q
  refine tG_bind anti_P hr hp fun x H1 d1 S1 β1 r1 e1 c1 p1 => ?_
  cases d1 with
  | int i => cases c1; exact ⟨i, rfl, p1 _ H1 β1 r1 (.refl _ _) rfl⟩
  | _ => exact p1.elim
theorem ve_slice (he : VF X F W e r) (hl : VPt X F W lo rl) (hh : VPt X F W hi rh) : VF X F W (.Subscript e (.Slice lo hi none p2) pos) (rSl sliceD r rl rh) := pe_imp (pe_slice (SlR.or sl_tupA sl_str) he hl hh) fun σ H Q q => by
  obtain ⟨ρ, S, β, hr, hp⟩ := q
  refine tG_bind anti_F hr hp fun x H1 d1 S1 β1 r1 e1 c1 p1 => ?_
  refine tG_bind anti_F r1 p1 fun o1 H2 d2 S2 β2 r2 e2 c2 p2 => ?_
  cases c2
  refine tG_bind anti_F r2 p2 fun o2 H3 d3 S3 β3 r3 e3 c3 p3 => ?_
  cases c3
  cases d1 with
  | tup l =>
    cases (c1.mono e2).mono e3 with
    | tup h g =>
      refine .inl ⟨_, _, rfl, h, fun ⟨w1, w2⟩ => ?_, fun _ p np => ?_⟩
      · refine tG_end r3 p3 (.refl _) ?_
        rw [g.length] at w1 w2
        rw [cut_whole w1 w2]
        exact .tup h g
      · exact tG_end r3 p3 (.new np) (.tup (.of upd_same) (g.cut.mono (.of (.new np))))
  | str z =>
    cases c1
    have p3 : Post (zX X F) F W ρ σ β3 H3 (RF (zX X F)) (optR (if z.length ≤ lim then some (D.str (cutS z o1 o2)) else none) S3) Q := p3
    split at p3
    · rename_i hz
      exact .inr ⟨z, rfl, Nat.le_trans hz lim_le, tG_end r3 p3 (.refl _) (.str _)⟩
    · exact p3.elim
  | _ => exact p3.elim
theorem ve_sliceL (he : VX X F W e r) (hl : VPt X F W lo rl) (hh : VPt X F W hi rh) : VO X F W (.Subscript e (.Slice lo hi none p2) pos) (rSl sliceL r rl rh) := pe_imp (pe_slice sl_list he hl hh) fun σ H Q q => by
  obtain ⟨ρ, S, β, hr, hp⟩ := q
  refine tG_bind anti_O hr hp fun x H1 d1 S1 β1 r1 e1 c1 p1 => ?_
  refine tG_bind anti_O r1 p1 fun o1 H2 d2 S2 β2 r2 e2 c2 p2 => ?_
  cases c2
  refine tG_bind anti_O r2 p2 fun o2 H3 d3 S3 β3 r3 e3 c3 p3 => ?_
  cases c3
  cases d1 with
  | lst l =>
    obtain ⟨a, vs, e0, g, h⟩ := ((c1.mono e2).mono e3).ls.sq
    refine ⟨a, vs, e0, h, fun p np => ?_⟩
    exact tG_end r3 p3 (.new np) ⟨p, _, rfl, np, upd_same, g.cut.mono (.of (.new np)), r3.sto.notin np⟩
  | _ => exact p3.elim
end

def VCl {α : Type} (X : Cx) (F : Fr) (f : Value) (R3 : RR V α) (g : List D → Option α) : Prop :=
  ∃ rV : List V → Hp → VK → Prop, CallR X f rV ∧ ∀ (vs : List V) (ds : List D) (c : α) (β : List Addr) (H : Hp) (Q : VK), (∃ S, StR (zX X F) β S H) → Paired (RXp (zX X F) β H) vs ds → g ds = some c → (∀ z H', Same H H' → R3 H β H' z c → Q z H') → rV vs H Q
@[simp] def rCl {α : Type} (g : List D → Option α) (r : Env → Sto → Res (List D)) : Env → Sto → Res α := fun ρ S => (r ρ S).bind fun ds S1 => optR (g ds) S1
section
variable {X : Cx} {F : Fr} {W : WX} {α : Type} {R3 : RR V α} {e : Expr} {es : List Expr} {x : Str} {p pos : Pos} {id T : String} {g : List D → Option α} {r : Env → Sto → Res (List D)}
theorem cl_read {rV : List V → Hp → VK → Prop} (an : Anti R3)
    (h2 : ∀ (vs : List V) (ds : List D) (c : α) (β : List Addr) (H : Hp) (Q : VK), (∃ S, StR (zX X F) β S H) → Paired (RXp (zX X F) β H) vs ds → g ds = some c → (∀ z H', Same H H' → R3 H β H' z c → Q z H') → rV vs H Q)
    {σ : L2.St} {H : Hp} {Q : VK} (q : tG (zX X F) F W R3 (rCl g r) σ H Q) : tCB rV (tG (zX X F) F W (RXs (zX X F)) r) σ H Q := by
  obtain ⟨ρ, S, β, hr, hp⟩ := q
  refine tG_bind an hr hp fun x H1 d1 S1 β1 r1 e1 c1 p1 => ?_
  cases e : g d1 with
  | none => rw [e] at p1; exact p1.elim
  | some c =>
    rw [e] at p1
    exact h2 x d1 c β1 H1 Q ⟨_, r1.sto⟩ c1 e fun z H' s r => p1 z H' β1 (r1.same s) (.of s) r
theorem ve_callB (hc : VCl X F (.builtin id) R3 g) (an : Anti R3) (ha : VAX X F W (e :: es) r) (hm : X.mg x = none) (hv : bootBuiltins x = some (.builtin id)) (hg : Gl X x := by rfl) (hn : x ≠ "__name__" := by decide) (hdb : (x == ("__debug__" : Str)) = false := by decide)
    (he : starEach (e :: es) X.env = (false, eval e X.env) :: starEach es X.env := by rfl) (hpl : (backTo pos (starEach es X.env)).any (·.1) = false := by rfl) : PE X (.Call (.Name x p) (e :: es) [] pos) (tG (zX X F) F W R3 (rCl g r)) := by
  obtain ⟨rV, h1, h2⟩ := hc
  exact pe_imp (pe_callB h1 hg hm hv ha hn hdb he hpl) fun σ H Q q => cl_read an h2 q
theorem ve_callTy (hc : VCl X F (.type T) R3 g) (an : Anti R3) (ha : VAX X F W (e :: es) r) (hm : X.mg x = none) (hv : bootBuiltins x = some (.type T)) (hg : Gl X x := by rfl) (hn : x ≠ "__name__" := by decide) (hdb : (x == ("__debug__" : Str)) = false := by decide)
    (he : starEach (e :: es) X.env = (false, eval e X.env) :: starEach es X.env := by rfl) (hpl : (backTo pos (starEach es X.env)).any (·.1) = false := by rfl) : PE X (.Call (.Name x p) (e :: es) [] pos) (tG (zX X F) F W R3 (rCl g r)) := by
  obtain ⟨rV, h1, h2⟩ := hc
  exact pe_imp (pe_callTy h1 hg hm hv ha hn hdb he hpl) fun σ H Q q => cl_read an h2 q
end
def lenD : List D → Option D
  | [.tup l] => some (.int l.length)
  | [.lst l] => some (.int l.length)
  | [.str z] => if z.length ≤ lim then some (.int z.length) else none
  | _ => none
def boolsOf : List D → Option (List Bool)
  | [] => some []
  | .bl b :: l => (boolsOf l).map (b :: ·)
  | _ :: _ => none
def allD : List D → Option D
  | [.lst l] => (boolsOf l).map fun bs => .bl (bs.all id)
  | _ => none
def anyD : List D → Option D
  | [.lst l] => (boolsOf l).map fun bs => .bl (bs.any id)
  | _ => none
/-- tuple(x) -/
def tupD : List D → Option D
  | [.tup l] => some (.tup l)
  | [.lst l] => some (.tup l)
  | _ => none
/-- list(x) -/
def listD : List D → Option (List D)
  | [.tup l] => some l
  | [.lst l] => some l
  | _ => none
def intD : List D → Option D
  | [.int i] => some (.int i)
  | [.bl b] => some (.int (if b then 1 else 0))
  | _ => none
def strD : List D → Option D
  | [.int i] => if i.natAbs.log2 < 1920 then some (.str (toString i : String)) else none
  | _ => none
theorem boolsOf_eq : ∀ {l : List D} {bs : List Bool}, boolsOf l = some bs → l = bs.map .bl
  | [], _, h => by cases h; rfl
  | d :: l, bs, h => by
    cases d with
    | bl b =>
      have h : (boolsOf l).map (b :: ·) = some bs := h
      cases e : boolsOf l with
      | none => rw [e] at h; cases h
      | some cs => rw [e] at h; cases h; rw [boolsOf_eq e]; rfl
    | _ => cases h
theorem Reps.bools {Z : Wd} {β : List Addr} {H : Hp} : ∀ {bs : List Bool} {vs : List V}, Reps Z β H vs (bs.map .bl) → vs = bs.map V.bl
  | [], _, .nil => rfl
  | b :: bs, _, .cons r t => by cases r; rw [Reps.bools t]; rfl
theorem Reps.ints {Z : Wd} {β : List Addr} {H : Hp} : ∀ {ns : List Int} {vs : List V}, Reps Z β H vs (ns.map .int) → vs = ns.map V.int
  | [], _, .nil => rfl
  | b :: bs, _, .cons r t => by cases r; rw [Reps.ints t]; rfl
theorem Reps.strs {Z : Wd} {β : List Addr} {H : Hp} : ∀ {ns : List Str} {vs : List V}, Reps Z β H vs (ns.map .str) → vs = ns.map V.str
  | [], _, .nil => rfl
  | b :: bs, _, .cons r t => by cases r; rw [Reps.strs t]; rfl
theorem one_arg {Z : Wd} {β : List Addr} {H : Hp} {vs : List V} {d : D} (r : Paired (RXp Z β H) vs [d]) : ∃ v, vs = [v] ∧ RXp Z β H v d := by
  cases r with
  | cons r t => cases t; exact ⟨_, rfl, r⟩
section
variable {X : Cx} {F : Fr}
theorem cl_len : VCl X F (.builtin "len") (RF (zX X F)) lenD := by
  refine ⟨_, call_len_seq.or call_len_str, fun vs ds c β H Q _ r e q => ?_⟩
  match ds, e with
  | [.tup l], e =>
    cases e
    obtain ⟨v, rfl, r1⟩ := one_arg r
    cases r1.rep (fun _ z => by cases z) with
    | tup h g => exact .inl ⟨_, _, rfl, .inr h, by rw [g.length]; exact q _ H (.refl _) (.int _)⟩
  | [.lst l], e =>
    cases e
    obtain ⟨v, rfl, r1⟩ := one_arg r
    obtain ⟨a, ws, rfl, g, h⟩ := r1.ls.sq
    exact .inl ⟨_, _, rfl, .inl h, by rw [g.length]; exact q _ H (.refl _) (.int _)⟩
  | [.str z], e =>
    obtain ⟨v, rfl, r1⟩ := one_arg r
    cases r1.rep (fun _ z => by cases z)
    have e : (if z.length ≤ lim then some (D.int z.length) else none) = some c := e
    split at e
    · rename_i hz
      cases e
      exact .inr ⟨z, rfl, Nat.le_trans hz lim_le, q _ H (.refl _) (.int _)⟩
    · cases e
theorem cl_all (hc : X.calm = true) : VCl X F (.builtin "all") (RF (zX X F)) allD := by
  refine ⟨_, cr_all hc, fun vs ds c β H Q _ r e q => ?_⟩
  match ds, e with
  | [.lst l], e =>
    obtain ⟨v, rfl, r1⟩ := one_arg r
    obtain ⟨a, ws, rfl, g, h⟩ := r1.ls.sq
    have e : (boolsOf l).map (fun bs => D.bl (bs.all id)) = some c := e
    cases e1 : boolsOf l with
    | none => rw [e1] at e; cases e
    | some bs =>
      rw [e1] at e
      cases e
      rw [boolsOf_eq e1] at g
      exact ⟨a, bs, rfl, by rw [← g.bools]; exact h, q _ H (.refl _) (.bl _)⟩
theorem cl_any (hc : X.calm = true) : VCl X F (.builtin "any") (RF (zX X F)) anyD := by
  refine ⟨_, cr_any hc, fun vs ds c β H Q _ r e q => ?_⟩
  match ds, e with
  | [.lst l], e =>
    obtain ⟨v, rfl, r1⟩ := one_arg r
    obtain ⟨a, ws, rfl, g, h⟩ := r1.ls.sq
    have e : (boolsOf l).map (fun bs => D.bl (bs.any id)) = some c := e
    cases e1 : boolsOf l with
    | none => rw [e1] at e; cases e
    | some bs =>
      rw [e1] at e
      cases e
      rw [boolsOf_eq e1] at g
      exact ⟨a, bs, rfl, by rw [← g.bools]; exact h, q _ H (.refl _) (.bl _)⟩
theorem cl_tuple : VCl X F (.type "tuple") (RF (zX X F)) tupD := by
  refine ⟨_, call_tuple_of, fun vs ds c β H Q _ r e q => ?_⟩
  match ds, e with
  | [.tup l], e =>
    cases e
    obtain ⟨v, rfl, r1⟩ := one_arg r
    cases r1.rep (fun _ z => by cases z) with
    | tup h g => exact ⟨_, _, rfl, .inr ⟨h, q _ H (.refl _) (.tup h g)⟩⟩
  | [.lst l], e =>
    cases e
    obtain ⟨v, rfl, r1⟩ := one_arg r
    obtain ⟨a, ws, rfl, g, h⟩ := r1.ls.sq
    exact ⟨_, _, rfl, .inl ⟨h, fun p np => q _ _ (.new np) (.tup (.of upd_same) (g.mono (.of (.new np))))⟩⟩
theorem cl_list : VCl X F (.type "list") (RO (zX X F)) listD := by
  refine ⟨_, call_list_of, fun vs ds c β H Q st r e q => ?_⟩
  obtain ⟨S, st⟩ := st
  match ds, e with
  | [.tup l], e =>
    cases e
    obtain ⟨v, rfl, r1⟩ := one_arg r
    cases r1.rep (fun _ z => by cases z) with
    | tup h g => exact ⟨_, _, rfl, .inr h, fun p np => q _ _ (.new np) ⟨p, _, rfl, np, upd_same, g.mono (.of (.new np)), st.notin np⟩⟩
  | [.lst l], e =>
    cases e
    obtain ⟨v, rfl, r1⟩ := one_arg r
    obtain ⟨a, ws, rfl, g, h⟩ := r1.ls.sq
    exact ⟨_, _, rfl, .inl h, fun p np => q _ _ (.new np) ⟨p, _, rfl, np, upd_same, g.mono (.of (.new np)), st.notin np⟩⟩
theorem cl_int : VCl X F (.type "int") (RF (zX X F)) intD := by
  refine ⟨_, call_int1, fun vs ds c β H Q _ r e q => ?_⟩
  match ds, e with
  | [.int i], e =>
    cases e
    obtain ⟨v, rfl, r1⟩ := one_arg r
    cases r1.rep (fun _ z => by cases z)
    exact .inl ⟨i, rfl, q _ H (.refl _) (.int _)⟩
  | [.bl b], e =>
    cases e
    obtain ⟨v, rfl, r1⟩ := one_arg r
    cases r1.rep (fun _ z => by cases z)
    exact .inr ⟨b, rfl, q _ H (.refl _) (.int _)⟩
theorem cl_str : VCl X F (.type "str") (RF (zX X F)) strD := by
  refine ⟨_, call_str_int, fun vs ds c β H Q _ r e q => ?_⟩
  match ds, e with
  | [.int i], e =>
    obtain ⟨v, rfl, r1⟩ := one_arg r
    cases r1.rep (fun _ z => by cases z)
    have e : (if i.natAbs.log2 < 1920 then some (D.str (toString i : String)) else none) = some c := e
    split at e
    · rename_i hz
      cases e
      exact ⟨i, rfl, hz, q _ H (.refl _) (.str _)⟩
    · cases e
end

def tyName : D → Option String
  | .non => some "NoneType"
  | .bl _ => some "bool"
  | .int _ => some "int"
  | .str _ => some "str"
  | .tup _ => some "tuple"
  | .lst _ => some "list"
  | .obj _ => none
  | .fn _ => none
  | .adr _ => none
def isT : String → D → Option Bool
  | "int", .non => some false
  | "int", .bl _ => some true
  | "int", .int _ => some true
  | "int", .str _ => some false
  | "int", .tup _ => some false
  | "int", .lst _ => some false
  | "bool", .non => some false
  | "bool", .bl _ => some true
  | "bool", .int _ => some false
  | "bool", .str _ => some false
  | "bool", .tup _ => some false
  | "bool", .lst _ => some false
  | "str", .non => some false
  | "str", .bl _ => some false
  | "str", .int _ => some false
  | "str", .str _ => some true
  | "str", .tup _ => some false
  | "str", .lst _ => some false
  | "tuple", .non => some false
  | "tuple", .bl _ => some false
  | "tuple", .int _ => some false
  | "tuple", .str _ => some false
  | "tuple", .tup _ => some true
  | "tuple", .lst _ => some false
  | "list", .non => some false
  | "list", .bl _ => some false
  | "list", .int _ => some false
  | "list", .str _ => some false
  | "list", .tup _ => some false
  | "list", .lst _ => some true
  | _, _ => none
theorem isT_kit {T t : String} {d : D} {b : Bool} (h : isT T d = some b) (ht : tyName d = some t) : kitB t T = some b := by
  have z : T = "int" ∨ T = "bool" ∨ T = "str" ∨ T = "tuple" ∨ T = "list" := by
    cases d <;> (unfold isT at h; split at h <;> simp_all)
  rcases z with rfl | rfl | rfl | rfl | rfl <;> cases d <;> cases ht <;> cases h <;> decide +kernel
theorem tyX_of {Z : Wd} {β : List Addr} {H : Hp} {v : V} {d : D} {t : String} (r : RXp Z β H v d) (ht : tyName d = some t) : TyX Z.K H v (.type t) := by
  rcases r with r | ⟨l, e, a, vs, e2, r, h⟩
  · cases r with
    | non => cases ht; exact .base .non
    | bl b => cases ht; exact .base (.bl b)
    | int b => cases ht; exact .base (.int b)
    | str b => cases ht; exact .base (.str b)
    | tup h g =>
      cases ht
      rcases h with (h | ⟨o, h⟩) | ⟨o, its, n, h1, h2, h3⟩
      · exact .base (.tup h)
      · exact .fTuple h
      · exact .kTuple h1 h2
    | lst h g =>
      cases ht
      rcases h with ⟨o, h⟩ | ⟨its, n, h, z⟩
      · exact .base (.frz h)
      · exact .kList h rfl
    | obj h => cases ht
    | fn h => cases ht
    | adr a => cases ht
  · subst e
    subst e2
    cases ht
    rcases h with ⟨h, _⟩ | ⟨o, h⟩ | ⟨its, n, h, z⟩
    · exact .base (.lst h)
    · exact .base (.frz h)
    · exact .kList h rfl
@[simp] def rIsT (T : String) (r : Env → Sto → Res D) : Env → Sto → Res D := fun ρ S => (r ρ S).bind fun d S1 => optR ((isT T d).map .bl) S1
def isTs (d : D) : List String → Option Bool
  | [] => some false
  | T :: r => match isT T d with
    | some true => some true
    | some false => isTs d r
    | none => none
@[simp] def rIsTs (Ts : List String) (r : Env → Sto → Res D) : Env → Sto → Res D := fun ρ S => (r ρ S).bind fun d S1 => optR ((isTs d Ts).map .bl) S1
theorem isT_ty {T : String} {d : D} {b : Bool} (h : isT T d = some b) : ∃ t, tyName d = some t := by
  cases d with
  | obj n => unfold isT at h; split at h <;> simp_all
  | fn n => unfold isT at h; split at h <;> simp_all
  | adr n => unfold isT at h; split at h <;> simp_all
  | _ => exact ⟨_, rfl⟩
section
variable {X : Cx} {F : Fr} {W : WX} {e : Expr} {p p2 pos : Pos} {T : String} {x : Str} {r : Env → Sto → Res D}
theorem ve_isi (he : VX X F W e r) (hm : X.mg "isinstance" = none) (hmT : X.mg x = none) (hvT : bootBuiltins x = some (.type T)) (hg : Gl X "isinstance" := by rfl) (hgT : Gl X x := by rfl) (hn : x ≠ "__name__" := by decide) (hdb : (x == ("__debug__" : Str)) = false := by decide)
    (h1 : starEach [e, .Name x p2] X.env = (false, eval e X.env) :: starEach [.Name x p2] X.env := by rfl) (h2 : starEach [.Name x p2] X.env = (false, eval (.Name x p2) X.env) :: starEach [] X.env := by rfl) (hpl : (backTo pos (starEach [.Name x p2] X.env)).any (·.1) = false := by rfl) :
    VF X F W (.Call (.Name "isinstance" p) [e, .Name x p2] [] pos) (rIsT T r) :=
  pe_imp (pe_callB call_isi hg hm (by decide +kernel) (pa_cons he (pa_cons (pe_bltn (v := .ty T) hgT hmT hvT rfl hn hdb) pa_nil h2) h1) (by decide) (by decide) h1 hpl) fun σ H Q q => by
    obtain ⟨ρ, S, β, hr, hp⟩ := q
    refine tG_bind anti_F hr hp fun x H1 d1 S1 β1 r1 e1 c1 p1 => ?_
    cases e : isT T d1 with
    | none => rw [e] at p1; exact p1.elim
    | some b =>
      rw [e] at p1
      obtain ⟨t, ht⟩ := isT_ty e
      exact ⟨x, .ty T, .type t, .type T, b, rfl, .ty T, tyX_of c1 ht, kit_ty (isT_kit e ht), tG_end r1 p1 (.refl _) (.bl _)⟩
/-- isinstance(x, (T1, T2)) -/
theorem kitAny_of {K : PySem.W.Frag} {d : D} {t : String} (ht : tyName d = some t) : ∀ {Ts : List String} {b : Bool}, isTs d Ts = some b → PySem.W.kitAny K (.type t) (Ts.map Value.type) = some b
  | [], b, h => by cases h; rfl
  | T :: Ts, b, h => by
    have h : (match isT T d with | some true => some true | some false => isTs d Ts | none => none) = some b := h
    show (match PySem.W.kitOne K (.type t) (.type T) with | some true => some true | some false => PySem.W.kitAny K (.type t) (Ts.map Value.type) | none => none) = some b
    cases e : isT T d with
    | none => rw [e] at h; cases h
    | some c =>
      rw [e] at h
      rw [kit_ty (isT_kit e ht)]
      cases c with
      | true => exact h
      | false => exact kitAny_of ht (Ts := Ts) h
theorem ve_isi2 {T1 T2 : String} {x1 x2 : Str} {k : Nat} {q1 q2 q3 : Pos} (he : VX X F W e r) (hm : X.mg "isinstance" = none) (hm1 : X.mg x1 = none) (hv1 : bootBuiltins x1 = some (.type T1)) (hm2 : X.mg x2 = none) (hv2 : bootBuiltins x2 = some (.type T2)) (hg : Gl X "isinstance" := by rfl) (hg1 : Gl X x1 := by rfl) (hg2 : Gl X x2 := by rfl) (hn1 : x1 ≠ "__name__" := by decide) (hdb1 : (x1 == ("__debug__" : Str)) = false := by decide) (hn2 : x2 ≠ "__name__" := by decide) (hdb2 : (x2 == ("__debug__" : Str)) = false := by decide)
    (h1 : starEach [e, .Tuple [.Name x1 q1, .Name x2 q2] k q3] X.env = (false, eval e X.env) :: starEach [.Tuple [.Name x1 q1, .Name x2 q2] k q3] X.env := by rfl) (h2 : starEach [.Tuple [.Name x1 q1, .Name x2 q2] k q3] X.env = (false, eval (.Tuple [.Name x1 q1, .Name x2 q2] k q3) X.env) :: starEach [] X.env := by rfl) (hpl : (backTo pos (starEach [.Tuple [.Name x1 q1, .Name x2 q2] k q3] X.env)).any (·.1) = false := by rfl)
    (h3 : starEach [.Name x1 q1, .Name x2 q2] X.env = (false, eval (.Name x1 q1) X.env) :: starEach [.Name x2 q2] X.env := by rfl) (h4 : starEach [.Name x2 q2] X.env = (false, eval (.Name x2 q2) X.env) :: starEach [] X.env := by rfl) :
    VF X F W (.Call (.Name "isinstance" p) [e, .Tuple [.Name x1 q1, .Name x2 q2] k q3] [] pos) (rIsTs [T1, T2] r) :=
  pe_imp (pe_callB call_isiT hg hm (by decide +kernel) (pa_cons he (pa_cons (pe_tup (pa_cons (pe_bltn (v := .ty T1) hg1 hm1 hv1 rfl hn1 hdb1) (pa_cons (pe_bltn (v := .ty T2) hg2 hm2 hv2 rfl hn2 hdb2) pa_nil h4) h3)) pa_nil h2) h1) (by decide) (by decide) h1 hpl) fun σ H Q q => by
    obtain ⟨ρ, S, β, hr, hp⟩ := q
    refine tG_bind anti_F hr hp fun x H1 d1 S1 β1 r1 e1 c1 p1 => ?_
    refine ⟨by show 2 ≤ sizeLine; decide, fun tp ntp => ?_⟩
    cases e : isTs d1 [T1, T2] with
    | none => rw [e] at p1; exact p1.elim
    | some b =>
      rw [e] at p1
      obtain ⟨t, ht⟩ : ∃ t, tyName d1 = some t := by
        have e' : (match isT T1 d1 with | some true => some true | some false => isTs d1 [T2] | none => none) = some b := e
        cases e2 : isT T1 d1 with
        | none => rw [e2] at e'; cases e'
        | some c => exact isT_ty e2
      exact ⟨x, tp, [.ty T1, .ty T2], .type t, [.type T1, .type T2], b, rfl, upd_same, .cons (.ty _) (.cons (.ty _) .nil), tyX_of (c1.mono (.of (.new ntp))) ht, kitAny_of ht e, tG_end r1 p1 (.new ntp) (.bl _)⟩
end

/-- nothing is let out -/
theorem tk0 {X : Cx} : L2N.Takes X (fun _ _ _ _ => False) := fun _ _ x => by
  obtain ⟨_, _, _, _, _, _, _, _, _, _, _, _, _, _, _, _, z⟩ := x
  exact z.elim
/-- what a def promises: Fn of the arguments' data and of the store -/
def spF (Z : Wd) (n : Nat) (Fn : List D → Sto → Res D) : Sp := fun vs H Q E => vs.length = n ∧ ∃ S β ds, StR Z β S H ∧ LamX.Tabs Z.T H ∧ Reps Z β H vs ds ∧ match Fn ds S with
  | .ok d S' => ∀ v H' β', StR Z β' S' H' → LamX.Tabs Z.T H' → Ev β H β' H' → Rep Z β' H' v d → Q v H'
  | .exc x S' => ∀ cls dd H' β', StR Z β' S' H' → LamX.Tabs Z.T H' → Ev β H β' H' → ExR Z β' H' cls dd x → E cls dd H'
  | .stuck => False
structure HasFn (P : Program) (w : World) (K : PySem.W.Frag) (mg : Str → Option Value) (base : Heap) (T : List (Addr × Str)) (x : Str) (k n : Nat) (Fn : List D → Sto → Res D) : Prop where
  ex : ∃ f fd ps, FnOk P w K mg base (L2N.CX P w) k f fd ps (spF ⟨K, mg, T⟩ n Fn) ∧ mg x = some (.ref f) ∧ PySem.W.keepIn K (.ref f) = true ∧ Binds K fd ps []
theorem HasFn.mono {P : Program} {w : World} {K : PySem.W.Frag} {mg : Str → Option Value} {base : Heap} {T : List (Addr × Str)} {x : Str} {k j n : Nat} {Fn : List D → Sto → Res D} (h : HasFn P w K mg base T x k n Fn) (hk : k ≤ j) : HasFn P w K mg base T x j n Fn := by
  obtain ⟨f, fd, ps, h1, h2⟩ := h.ex
  exact ⟨f, fd, ps, h1.mono hk, h2⟩
/-- a promise of a function that says less -/
theorem HasFn.imp {P : Program} {w : World} {K : PySem.W.Frag} {mg : Str → Option Value} {base : Heap} {T : List (Addr × Str)} {x : Str} {k n : Nat} {Fn Gn : List D → Sto → Res D} (h : HasFn P w K mg base T x k n Fn) (hg : ∀ ds S, Gn ds S ≠ .stuck → Fn ds S = Gn ds S) : HasFn P w K mg base T x k n Gn := by
  obtain ⟨f, fd, ps, h1, h2⟩ := h.ex
  refine ⟨f, fd, ps, h1.imp fun vs H Q E q => ?_, h2⟩
  obtain ⟨hl, S, β, ds, a, b, c, m⟩ := q
  refine ⟨hl, S, β, ds, a, b, c, ?_⟩
  have e : Fn ds S = Gn ds S := hg ds S fun z => by rw [z] at m; exact m
  rw [e]
  exact m
@[simp] def rCall (Fn : List D → Sto → Res D) (r : Env → Sto → Res (List D)) : Env → Sto → Res D := fun ρ S => (r ρ S).bind fun ds S1 => Fn ds S1
section
variable {X : Cx} {F : Fr} {W : WX} {e : Expr} {es : List Expr} {p pos : Pos} {x : Str} {k n : Nat} {Fn : List D → Sto → Res D} {r : Env → Sto → Res (List D)}
theorem call_read {σ : L2.St} {H : Hp} {Q : VK} (hl : ∀ ρ S ds S', r ρ S = .ok ds S' → ds.length = n) (q : tG (zX X F) F W (RF (zX X F)) (rCall Fn r) σ H Q) : tCallS (spF (zX X F) n Fn) (WE W) (tG (zX X F) F W (RA (zX X F)) r) σ H Q := by
  obtain ⟨ρ, S, β, hr, hp⟩ := q
  refine ⟨ρ, S, β, hr, ?_⟩
  cases e : r ρ S with
  | exc x S1 => unfold rCall at hp; rw [e] at hp; exact hp
  | stuck => unfold rCall at hp; rw [e] at hp; exact hp
  | ok ds S1 =>
    unfold rCall at hp
    rw [e] at hp
    have hp : Post (zX X F) F W ρ σ β H (RF (zX X F)) (Fn ds S1) Q := hp
    intro vs H1 β1 r1 e1 c1
    have p1 := Post.later anti_F e1 hp
    refine ⟨by rw [Reps.length c1, hl ρ S ds S1 e], S1, β1, ds, r1.sto, r1.tab, c1, ?_⟩
    have again : ∀ {S' : Sto} {H' : Hp} {β' : List Addr}, StR (zX X F) β' S' H' → LamX.Tabs F.T H' → Ev β1 H1 β' H' → Rel (zX X F) F ρ S' β' σ H' := fun {S' H' β'} a b c => by
      refine ⟨a, r1.ev.trans c, b, r1.len, fun i sl q => ?_, r1.own⟩
      have g := r1.slot i sl q
      cases sl with
      | un => trivial
      | val d => obtain ⟨y, g1, g2⟩ := g; exact ⟨y, g1, g2.mono c⟩
      | od _ => exact g
      | ol l =>
        obtain ⟨y, ws, g1, g2, g3, g4, g5⟩ := g
        exact ⟨y, ws, g1, c.keep _ _ g2 (.inr ⟨g4, rfl⟩), g3.mono c, c.notin g2 g4, g5⟩
    cases ef : Fn ds S1 with
    | ok d S2 =>
      rw [ef] at p1
      exact fun v H' β' a b c d => p1 v H' β' (again a b c) c d
    | exc x S2 =>
      rw [ef] at p1
      exact fun cls dd H' β' a b c d => p1 cls dd H' β' (again a b c) c d
    | stuck => rw [ef] at p1; exact p1
/-- the number of arguments is written -/
def Lens (r : Env → Sto → Res (List D)) (n : Nat) : Prop := ∀ ρ S ds S', r ρ S = .ok ds S' → ds.length = n
theorem lens_nil : Lens rNil 0 := fun _ _ _ _ h => by cases h; rfl
theorem lens_cons {a : Env → Sto → Res D} {r : Env → Sto → Res (List D)} {n : Nat} (h : Lens r n) : Lens (rCons a r) (n + 1) := fun ρ S ds S' e => by
  unfold rCons at e
  cases e1 : a ρ S with
  | ok x S1 =>
    rw [e1] at e
    have e : (r ρ S1).bind (fun xs S2 => .ok (x :: xs) S2) = .ok ds S' := e
    cases e2 : r ρ S1 with
    | ok xs S2 => rw [e2] at e; cases e; rw [List.length_cons, h _ _ _ _ e2]
    | exc _ _ => rw [e2] at e; cases e
    | stuck => rw [e2] at e; cases e
  | exc _ _ => rw [e1] at e; cases e
  | stuck => rw [e1] at e; cases e
theorem ve_call (h : HasFn X.prog X.w X.K X.mg X.base F.T x k n Fn) (hr : Room k X.A) (tk : L2N.Takes X W) (hl : Lens r n) (ha : VA X F W (e :: es) r) (hg : Gl X x := by rfl) (hdb : (x == ("__debug__" : Str)) = false := by decide)
    (he : starEach (e :: es) X.env = (false, eval e X.env) :: starEach es X.env := by rfl) (hpl : (backTo pos (starEach es X.env)).any (·.1) = false := by rfl) : VF X F W (.Call (.Name x p) (e :: es) [] pos) (rCall Fn r) := by
  obtain ⟨f, fd, ps, h1, h2, h3, h4⟩ := h.ex
  exact pe_imp (pe_callS h1 hr hg h2 h3 h4 (fun σ => L2N.passAt tk σ) ha hdb he hpl) fun σ H Q q => call_read hl q
end
end VS

set_option maxHeartbeats 2000000
namespace VS
open PySem PySem.Spec PyProof.Rows L2

inductive Fl where
  | nx (ρ : Env) (S : Sto)
  | rt (d : D) (S : Sto)
  | bk (ρ : Env) (S : Sto)
  | ct (ρ : Env) (S : Sto)
  | exc (x : Exn) (S : Sto)
  | stuck
abbrev RS := Env → Sto → Fl
def PostS (X : Cx) (F : Fr) (W : WX) (β : List Addr) (H : Hp) (fl : Fl) (Dn : Ends) : Prop := match fl with
  | .nx ρ S => ∀ σ' H' β', Rel (zX X F) F ρ S β' σ' H' → Sv β H β' H' → Dn.nx σ' H'
  | .bk ρ S => ∀ σ' H' β', Rel (zX X F) F ρ S β' σ' H' → Sv β H β' H' → Dn.bk σ' H'
  | .ct ρ S => ∀ σ' H' β', Rel (zX X F) F ρ S β' σ' H' → Sv β H β' H' → Dn.ct σ' H'
  | .rt d S => ∀ v H' β', StR (zX X F) β' S H' → LamX.Tabs F.T H' → Ev F.β0 F.H0 β' H' → Rep (zX X F) β' H' v d → Dn.rt v H'
  | .exc x S => ∀ cls dd σ' H' β', StR (zX X F) β' S H' → LamX.Tabs F.T H' → Ev F.β0 F.H0 β' H' → ExR (zX X F) β' H' cls dd x → W cls dd σ' H'
  | .stuck => False
def tS (X : Cx) (F : Fr) (W : WX) (r : RS) : TS := fun Dn σ H => ∃ ρ S β, Rel (zX X F) F ρ S β σ H ∧ PostS X F W β H (r ρ S) Dn
abbrev VS1 (X : Cx) (F : Fr) (W : WX) (st : Stmt) (r : RS) : Prop := PS X st (tS X F W r)
abbrev VSs (X : Cx) (F : Fr) (W : WX) (sts : List Stmt) (r : RS) : Prop := PSs X sts (tS X F W r)
theorem PostS.later {X : Cx} {F : Fr} {W : WX} {β β1 : List Addr} {H H1 : Hp} {fl : Fl} {Dn : Ends} (i : Sv β H β1 H1) (h : PostS X F W β H fl Dn) : PostS X F W β1 H1 fl Dn := by
  cases fl with
  | nx ρ S => exact fun σ' H' β' a b => h σ' H' β' a (i.trans b)
  | bk ρ S => exact fun σ' H' β' a b => h σ' H' β' a (i.trans b)
  | ct ρ S => exact fun σ' H' β' a b => h σ' H' β' a (i.trans b)
  | rt d S => exact h
  | exc x S => exact h
  | stuck => exact h

@[simp] def rNext : RS := fun ρ S => .nx ρ S
@[simp] def rSeq (a b : RS) : RS := fun ρ S => match a ρ S with
  | .nx ρ' S' => b ρ' S'
  | o => o
/-- an expression ahead of what follows -/
def Res.thenS {α : Type} (r : Res α) (k : α → Sto → Fl) : Fl := match r with
  | .ok a S => k a S
  | .exc x S => .exc x S
  | .stuck => .stuck
@[simp] theorem Res.thenS_ok {α : Type} (a : α) (S : Sto) (k : α → Sto → Fl) : (Res.ok a S).thenS k = k a S := rfl
@[simp] theorem Res.thenS_exc {α : Type} (x : Exn) (S : Sto) (k : α → Sto → Fl) : (Res.exc x S).thenS k = .exc x S := rfl
@[simp] theorem Res.thenS_stuck {α : Type} (k : α → Sto → Fl) : (Res.stuck : Res α).thenS k = .stuck := rfl
section
variable {X : Cx} {F : Fr} {W : WX}
/-- an expression, then a statement's rest -/
theorem tG_then {V' α : Type} {R1 : RR V' α} {r1 : Env → Sto → Res α} {k : α → Sto → Fl} {ρ : Env} {S : Sto} {β : List Addr} {σ : L2.St} {H : Hp} {Dn : Ends} (hr : Rel (zX X F) F ρ S β σ H) (h : PostS X F W β H ((r1 ρ S).thenS k) Dn) {Q1 : V' → Hp → Prop}
    (hq : ∀ x H1 d S1 β1, Rel (zX X F) F ρ S1 β1 σ H1 → Ev β H β1 H1 → R1 H β1 H1 x d → PostS X F W β1 H1 (k d S1) Dn → Q1 x H1) : tG (zX X F) F W R1 r1 σ H Q1 := by
  refine ⟨ρ, S, β, hr, ?_⟩
  cases e : r1 ρ S with
  | ok d S1 =>
    rw [e] at h
    exact fun v H' β' a b c => hq v H' d S1 β' a b c (PostS.later b.sv h)
  | exc x S1 =>
    rw [e] at h
    exact fun cls dd H' β' a b c => h cls dd σ H' β' a.sto a.tab a.ev c
  | stuck => rw [e] at h; exact h
theorem vs_nil : VSs X F W [] rNext := pss_imp pss_nil fun Dn σ H ⟨ρ, S, β, hr, hp⟩ => hp σ H β hr (.refl _ _)
theorem vs_one {st : Stmt} {r : RS} (h : VS1 X F W st r) : VSs X F W [st] r := pss_one h
theorem vs_cons {st : Stmt} {sts : List Stmt} {a b : RS} (h1 : VS1 X F W st a) (h2 : VSs X F W sts b) : VSs X F W (st :: sts) (rSeq a b) := pss_imp (pss_cons h1 h2) fun Dn σ H ⟨ρ, S, β, hr, hp⟩ => by
  refine ⟨ρ, S, β, hr, ?_⟩
  unfold rSeq at hp
  cases e : a ρ S with
  | nx ρ' S' =>
    rw [e] at hp
    exact fun σ' H' β' r i => ⟨ρ', S', β', r, PostS.later i hp⟩
  | bk ρ' S' => rw [e] at hp; exact hp
  | ct ρ' S' => rw [e] at hp; exact hp
  | rt d S' => rw [e] at hp; exact hp
  | exc x S' => rw [e] at hp; exact hp
  | stuck => rw [e] at hp; exact hp
/-- what is never reached -/
theorem vs_never {sts : List Stmt} : VSs X F W sts fun _ _ => .stuck := pss_imp pss_never fun Dn σ H ⟨ρ, S, β, hr, hp⟩ => hp
theorem vs_never1 {st : Stmt} : VS1 X F W st fun _ _ => .stuck := ps_imp ps_never fun Dn σ H ⟨ρ, S, β, hr, hp⟩ => hp
@[simp] def rDrop {α : Type} (r : Env → Sto → Res α) : RS := fun ρ S => (r ρ S).thenS fun _ S1 => .nx ρ S1
theorem vs_expr {α : Type} {R : RR V α} {e : Expr} {pos : Pos} {r : Env → Sto → Res α} (h : PE X e (tG (zX X F) F W R r)) (hs : swapsWith e none pos.line X.env = pure false := by rfl) : VS1 X F W (.Expr e pos) (rDrop r) := ps_imp (ps_expr h hs) fun Dn σ H ⟨ρ, S, β, hr, hp⟩ =>
  tG_then hr hp fun x H1 d S1 β1 r1 e1 c1 p1 => p1 σ H1 β1 r1 (.refl _ _)
@[simp] def rRet (r : Env → Sto → Res D) : RS := fun ρ S => (r ρ S).thenS fun d S1 => .rt d S1
theorem vs_ret {e : Expr} {pos : Pos} {r : Env → Sto → Res D} (h : VF X F W e r) : VS1 X F W (.Return (some e) pos) (rRet r) := ps_imp (ps_ret h) fun Dn σ H ⟨ρ, S, β, hr, hp⟩ =>
  tG_then hr hp fun x H1 d S1 β1 r1 e1 c1 p1 => p1 x H1 β1 r1.sto r1.tab r1.ev c1
@[simp] def rIfS (t : Env → Sto → Res Bool) (a b : RS) : RS := fun ρ S => (t ρ S).thenS fun c S1 => if c = true then a ρ S1 else b ρ S1
theorem vs_if {c : Expr} {a b : List Stmt} {pos : Pos} {t : Env → Sto → Res Bool} {ra rb : RS} (hc : VT X F W c t) (ha : VSs X F W a ra) (hb : VSs X F W b rb) : VS1 X F W (.If c a b pos) (rIfS t ra rb) := ps_imp (ps_if hc ha hb) fun Dn σ H ⟨ρ, S, β, hr, hp⟩ =>
  tG_then hr hp fun x H1 d S1 β1 r1 e1 c1 p1 => by
    cases c1
    cases x with
    | true => exact ⟨ρ, S1, β1, r1, p1⟩
    | false => exact ⟨ρ, S1, β1, r1, p1⟩
theorem vs_pass {pos : Pos} : VS1 X F W (.Pass pos) rNext := ps_imp ps_pass fun Dn σ H ⟨ρ, S, β, hr, hp⟩ => hp σ H β hr (.refl _ _)
theorem vs_doc {x : Str} {j : Nat} {pos pos' : Pos} : VS1 X F W (.Expr (.Constant (.str x) j pos) pos') rNext := ps_imp ps_doc fun Dn σ H ⟨ρ, S, β, hr, hp⟩ => hp σ H β hr (.refl _ _)

theorem Rel.setVal {ρ : Env} {S : Sto} {β : List Addr} {σ : L2.St} {H : Hp} {i : Nat} {v : V} {d : D} (h : Rel (zX X F) F ρ S β σ H) (r : Rep (zX X F) β H v d) (hi : i < ρ.length) : Rel (zX X F) F (ρ.set i (.val d)) S β (σ.set i (some v)) H := by
  refine ⟨h.sto, h.ev, h.tab, by rw [List.length_set, List.length_set, h.len], fun j sl q => ?_, fun j k s t a ne e1 e2 o1 o2 v1 v2 => ?_⟩
  · by_cases hj : i = j
    · subst hj
      rw [List.getElem?_set_self hi] at q
      cases q
      exact ⟨v, by rw [List.getElem?_set_self (by rw [← h.len]; exact hi)], r⟩
    · rw [List.getElem?_set_ne hj] at q ⊢
      exact h.slot j sl q
  · have ni : ∀ (m : Nat) (s : Sl), (ρ.set i (.val d))[m]? = some s → isOwn s = true → i ≠ m := fun m s e o z => by
      subst z
      rw [List.getElem?_set_self hi] at e
      cases e
      cases o
    have n1 := ni j s e1 o1
    have n2 := ni k t e2 o2
    rw [List.getElem?_set_ne n1] at e1 v1
    rw [List.getElem?_set_ne n2] at e2 v2
    exact h.own j k s t a ne e1 e2 o1 o2 v1 v2
theorem Rel.setOwn {ρ : Env} {S : Sto} {β : List Addr} {σ : L2.St} {H : Hp} {i : Nat} {a : Addr} {vs : List V} {l : List D} (h : Rel (zX X F) F ρ S β σ H) (ha : H a = some (.lst vs)) (r : Reps (zX X F) β H vs l) (nb : a ∉ β) (n0 : F.H0 a = none) (hi : i < ρ.length)
    (ns : ∀ (j : Nat) (s : Sl), i ≠ j → ρ[j]? = some s → isOwn s = true → σ[j]? ≠ some (some (.ref a))) : Rel (zX X F) F (ρ.set i (.ol l)) S β (σ.set i (some (.ref a))) H := by
  have hi' : i < σ.length := by rw [← h.len]; exact hi
  refine ⟨h.sto, h.ev, h.tab, by rw [List.length_set, List.length_set, h.len], fun j sl q => ?_, fun j k s t b ne e1 e2 o1 o2 v1 v2 => ?_⟩
  · by_cases hj : i = j
    · subst hj
      rw [List.getElem?_set_self hi] at q
      cases q
      exact ⟨a, vs, by rw [List.getElem?_set_self hi'], ha, r, nb, n0⟩
    · rw [List.getElem?_set_ne hj] at q ⊢
      exact h.slot j sl q
  · by_cases h1 : i = j
    · subst h1
      have h2 : i ≠ k := ne
      rw [List.getElem?_set_self hi'] at v1
      cases v1
      rw [List.getElem?_set_ne h2] at e2 v2
      exact ns k t h2 e2 o2 v2
    · rw [List.getElem?_set_ne h1] at e1 v1
      by_cases h2 : i = k
      · subst h2
        rw [List.getElem?_set_self hi'] at v2
        cases v2
        exact ns j s h1 e1 o1 v1
      · rw [List.getElem?_set_ne h2] at e2 v2
        exact h.own j k s t b ne e1 e2 o1 o2 v1 v2
@[simp] def setE (ρ : Env) (i : Nat) (s : Sl) (S : Sto) : Fl := if i < ρ.length then .nx (ρ.set i s) S else .stuck
@[simp] def rSetF (i : Nat) (r : Env → Sto → Res D) : RS := fun ρ S => (r ρ S).thenS fun d S1 => setE ρ i (.val d) S1
@[simp] def rSetO (i : Nat) (r : Env → Sto → Res (List D)) : RS := fun ρ S => (r ρ S).thenS fun l S1 => setE ρ i (.ol l) S1
variable {x : Str} {i : Nat} {e : Expr} {pos pos' : Pos}
theorem vs_setF {r : Env → Sto → Res D} (hN : X.N.Nodup) (hi : X.N[i]? = some x) (hx : Loc X.env.scope x) (h : VF X F W e r) (hs : swapsWith e (some (.Name x pos')) pos.line X.env = pure false := by rfl) (hf : X.fn x = true ∨ X.env.scope.names.lookup x = some .local := by first | exact .inl rfl | exact .inr rfl | assumption) :
    VS1 X F W (.Assign [.Name x pos'] e pos) (rSetF i r) := ps_imp (ps_set hN hi hx h hs hf) fun Dn σ H ⟨ρ, S, β, hr, hp⟩ =>
  tG_then hr hp fun v H1 d S1 β1 r1 e1 c1 p1 => by
    unfold setE at p1
    split at p1
    · rename_i hl
      exact p1 _ H1 β1 (r1.setVal c1 hl) (.refl _ _)
    · exact p1.elim
theorem vs_setO {r : Env → Sto → Res (List D)} (hN : X.N.Nodup) (hi : X.N[i]? = some x) (hx : Loc X.env.scope x) (h : VO X F W e r) (hs : swapsWith e (some (.Name x pos')) pos.line X.env = pure false := by rfl) (hf : X.fn x = true ∨ X.env.scope.names.lookup x = some .local := by first | exact .inl rfl | exact .inr rfl | assumption) :
    VS1 X F W (.Assign [.Name x pos'] e pos) (rSetO i r) := ps_imp (ps_set hN hi hx h hs hf) fun Dn σ H ⟨ρ, S, β, hr, hp⟩ =>
  tG_then hr hp fun v H1 d S1 β1 r1 e1 c1 p1 => by
    unfold setE at p1
    split at p1
    · rename_i hl
      obtain ⟨a, vs, e0, n, ha, g, nb⟩ := c1
      subst e0
      refine p1 _ H1 β1 (r1.setOwn ha g nb (hr.ev.dom a n) hl fun j s _ q1 q2 q3 => ?_) (.refl _ _)
      obtain ⟨ys, z⟩ := hr.ownAt q1 q2 q3
      rw [n] at z
      cases z
    · exact p1.elim

theorem wipe_get (σ : L2.St) (j : Nat) : ∀ vs : List Nat, (wipe σ vs)[j]? = if j ∈ vs then (σ[j]?).map (fun _ => none) else σ[j]?
  | [] => by simp [wipe]
  | v :: vs => by
    show ((wipe σ vs).set v none)[j]? = _
    by_cases h : v = j
    · subst h
      by_cases hl : v < (wipe σ vs).length
      · rw [List.getElem?_set_self hl]
        have hl' : v < σ.length := by rw [wipe_length] at hl; exact hl
        simp [List.getElem?_eq_getElem hl']
      · rw [List.getElem?_eq_none (by simpa using hl)]
        have hl' : σ.length ≤ v := by rw [wipe_length] at hl; omega
        simp [List.getElem?_eq_none hl']
    · rw [List.getElem?_set_ne h, wipe_get σ j vs]
      have : j ≠ v := fun e => h e.symm
      simp [this]
theorem wipe_set {σ : L2.St} {i : Nat} {x : Option V} {vs : List Nat} (h : i ∈ vs) : wipe (σ.set i x) vs = wipe σ vs := by
  apply List.ext_getElem?
  intro j
  rw [wipe_get, wipe_get]
  by_cases hj : i = j
  · subst hj
    rw [if_pos h, if_pos h]
    by_cases hl : i < σ.length
    · rw [List.getElem?_set_self hl, List.getElem?_eq_getElem hl]; rfl
    · rw [List.getElem?_eq_none (by simpa using hl), List.getElem?_eq_none (by omega)]
  · rw [List.getElem?_set_ne hj]
/-- σ' is σ but at the slots ix -/
def ButAt (ix : List Nat) (σ σ' : L2.St) : Prop := ∀ vs : List Nat, (∀ i ∈ ix, i ∈ vs) → wipe σ' vs = wipe σ vs
def tGt (Z : Wd) (F : Fr) (ix : List Nat) (g : D → Env → Option Env) : TG := fun v σ H Q => ∃ ρ S β d, Rel Z F ρ S β σ H ∧ Rep Z β H v d ∧ ∃ ρ', g d ρ = some ρ' ∧ ∀ σ', Rel Z F ρ' S β σ' H → ButAt ix σ σ' → Q σ' H
def tGts (Z : Wd) (F : Fr) (ix : List Nat) (g : List D → Env → Option Env) : TGs := fun vs σ H Q => ∃ ρ S β ds, Rel Z F ρ S β σ H ∧ Reps Z β H vs ds ∧ ∃ ρ', g ds ρ = some ρ' ∧ ∀ σ', Rel Z F ρ' S β σ' H → ButAt ix σ σ' → Q σ' H
abbrev VG (X : Cx) (F : Fr) (tg : Expr) (ix : List Nat) (g : D → Env → Option Env) : Prop := PG X tg (tGt (zX X F) F ix g)
abbrev VGs (X : Cx) (F : Fr) (tgs : List Expr) (ix : List Nat) (g : List D → Env → Option Env) : Prop := PGs X tgs (tGts (zX X F) F ix g)
theorem pg_imp {tg : Expr} {t t' : TG} (h : PG X tg t) (m : ∀ v σ H Q, t' v σ H Q → t v σ H Q) : PG X tg t' := ⟨fun pins s σ H v u Q I r q => h.run pins s σ H v u Q I r (m _ _ _ _ q)⟩
theorem pgs_imp {tg : List Expr} {t t' : TGs} (h : PGs X tg t) (m : ∀ v σ H Q, t' v σ H Q → t v σ H Q) : PGs X tg t' := ⟨fun pins s σ H v u Q I r q => h.run pins s σ H v u Q I r (m _ _ _ _ q)⟩
def gN (i : Nat) : D → Env → Option Env := fun d ρ => if i < ρ.length then some (ρ.set i (.val d)) else none
def gT (g : List D → Env → Option Env) : D → Env → Option Env := fun d ρ => match d with
  | .tup l => g l ρ
  | _ => none
def gsNil : List D → Env → Option Env := fun ds ρ => match ds with
  | [] => some ρ
  | _ => none
def gsCons (g : D → Env → Option Env) (gs : List D → Env → Option Env) : List D → Env → Option Env := fun ds ρ => match ds with
  | d :: r => (g d ρ).bind fun ρ' => gs r ρ'
  | [] => none
theorem vg_name (hN : X.N.Nodup) (hi : X.N[i]? = some x) (hx : Loc X.env.scope x) (hf : X.fn x = true ∨ X.env.scope.names.lookup x = some .local := by first | exact .inl rfl | exact .inr rfl | assumption) : VG X F (.Name x pos) [i] (gN i) := pg_imp (pg_name hN hi hx hf) fun v σ H Q ⟨ρ, S, β, d, hr, hd, ρ', e, q⟩ => by
  unfold gN at e
  split at e
  · rename_i hl
    cases e
    exact q _ (hr.setVal hd hl) fun vs h => wipe_set (h i (by simp))
  · cases e
theorem vgs_nil : VGs X F [] [] gsNil := pgs_imp pgs_nil fun vs σ H Q ⟨ρ, S, β, ds, hr, hd, ρ', e, q⟩ => by
  cases hd with
  | nil => cases e; exact ⟨rfl, q _ hr fun _ _ => rfl⟩
  | cons _ _ => cases e
theorem vgs_cons {es : List Expr} {ix iy : List Nat} {g : D → Env → Option Env} {gs : List D → Env → Option Env} (h1 : VG X F e ix g) (h2 : VGs X F es iy gs) (hs : (assignEach (e :: es) X.env).map (·.2) = assign e X.env :: (assignEach es X.env).map (·.2) := by rfl) : VGs X F (e :: es) (ix ++ iy) (gsCons g gs) := pgs_imp (pgs_cons h1 h2 hs) fun vs σ H Q ⟨ρ, S, β, ds, hr, hd, ρ', e, q⟩ => by
  cases hd with
  | nil => cases e
  | @cons v vs' d ds' r t =>
    have e : (g d ρ).bind (fun ρ' => gs ds' ρ') = some ρ' := e
    cases e1 : g d ρ with
    | none => rw [e1] at e; cases e
    | some ρ1 =>
      rw [e1] at e
      exact ⟨_, _, rfl, ρ, S, β, d, hr, r, ρ1, e1, fun σ1 r1 b1 => ⟨ρ1, S, β, ds', r1, t, ρ', e, fun σ2 r2 b2 => q σ2 r2 fun vs h => (b2 vs fun i hi => h i (by simp [hi])).trans (b1 vs fun i hi => h i (by simp [hi]))⟩⟩
def GLen (g : List D → Env → Option Env) (n : Nat) : Prop := ∀ ds ρ ρ', g ds ρ = some ρ' → ds.length = n
theorem glen_nil : GLen gsNil 0 := fun ds ρ ρ' h => by
  cases ds with
  | nil => rfl
  | cons _ _ => cases h
theorem glen_cons {g : D → Env → Option Env} {gs : List D → Env → Option Env} {n : Nat} (h : GLen gs n) : GLen (gsCons g gs) (n + 1) := fun ds ρ ρ' e => by
  cases ds with
  | nil => cases e
  | cons d r =>
    have e : (g d ρ).bind (fun ρ' => gs r ρ') = some ρ' := e
    cases e1 : g d ρ with
    | none => rw [e1] at e; cases e
    | some ρ1 => rw [e1] at e; rw [List.length_cons, h _ _ _ e]
theorem vg_tup {es : List Expr} {k n : Nat} {ix : List Nat} {gs : List D → Env → Option Env} (hc : X.calm = true) (h : VGs X F es ix gs) (hl : GLen gs n) (hn : (assignEach es X.env).length = n := by rfl) (hst : (assignEach es X.env).findIdx? (·.1) = none := by rfl) : VG X F (.Tuple es k pos) ix (gT gs) :=
  pg_imp (pg_tup hc h hn hst) fun v σ H Q ⟨ρ, S, β, d, hr, hd, ρ', e, q⟩ => by
    cases hd with
    | tup h1 g1 =>
      have e : gs _ ρ = some ρ' := e
      exact ⟨_, _, rfl, h1, by rw [g1.length, hl _ _ _ e], ρ, S, β, _, hr, g1, ρ', e, q⟩
    | _ => cases e
def optE (o : Option Env) (S : Sto) : Fl := match o with
  | some ρ => .nx ρ S
  | none => .stuck
@[simp] theorem optE_some (ρ : Env) (S : Sto) : optE (some ρ) S = .nx ρ S := rfl
@[simp] def rAsg (g : D → Env → Option Env) (r : Env → Sto → Res D) : RS := fun ρ S => (r ρ S).thenS fun d S1 => optE (g d ρ) S1
theorem vs_asg {tg : Expr} {ix : List Nat} {g : D → Env → Option Env} {r : Env → Sto → Res D} (h : VF X F W e r) (hg : VG X F tg ix g) (hs : swapsWithSole [tg] e pos.line X.env = pure false := by rfl) (hw : swappedStores [tg] e X.env = pure none := by rfl) (h1 : (assignEach [tg] X.env).map (·.2) = [assign tg X.env] := by rfl) :
    VS1 X F W (.Assign [tg] e pos) (rAsg g r) := ps_imp (ps_asg h hg hs hw h1) fun Dn σ H ⟨ρ, S, β, hr, hp⟩ =>
  tG_then hr hp fun v H1 d S1 β1 r1 e1 c1 p1 => by
    cases eg : g d ρ with
    | none => rw [eg] at p1; exact p1.elim
    | some ρ' =>
      rw [eg] at p1
      exact ⟨ρ, S1, β1, d, r1, c1, ρ', eg, fun σ' r2 _ => p1 σ' H1 β1 r2 (.refl _ _)⟩
/-- a, b = x, y: both local names -/
def rPar (i j : Nat) (r : Env → Sto → Res (List D)) : RS := fun ρ S => (r ρ S).thenS fun ds S1 => match ds with
  | [a, b] => if i < ρ.length ∧ j < ρ.length then .nx ((ρ.set i (.val a)).set j (.val b)) S1 else .stuck
  | _ => .stuck
theorem vs_par {j : Nat} {y : Str} {a b : Expr} {px py pt : Pos} {kt k2 : Nat} {pt2 : Pos} {r : Env → Sto → Res (List D)} (hc : X.calm = true) (hN : X.N.Nodup) (hi : X.N[i]? = some x) (hj : X.N[j]? = some y) (hij : i ≠ j)
    (hx : X.env.scope.names.lookup x = some .local) (hy : X.env.scope.names.lookup y = some .local) (ha : VA X F W [a, b] r)
    (hw : swappedStores [.Tuple [.Name x px, .Name y py] kt pt] (.Tuple [a, b] k2 pt2) X.env = pure (some [x, y]))
    (hs : swapsWithSole [.Tuple [.Name x px, .Name y py] kt pt] (.Tuple [a, b] k2 pt2) pos.line X.env = pure false := by rfl) :
    VS1 X F W (.Assign [.Tuple [.Name x px, .Name y py] kt pt] (.Tuple [a, b] k2 pt2) pos) (rPar i j r) := ps_imp (ps_par hc hN hi hj hij hx hy ha hw hs) fun Dn σ H ⟨ρ, S, β, hr, hp⟩ =>
  tG_then hr hp fun v H1 d S1 β1 r1 e1 c1 p1 => by
    match d, c1 with
    | [d1, d2], c1 =>
      cases c1 with
      | cons q1 t1 =>
        cases t1 with
        | cons q2 t2 =>
          cases t2
          have p1 : PostS X F W β1 H1 (if i < ρ.length ∧ j < ρ.length then .nx ((ρ.set i (.val d1)).set j (.val d2)) S1 else .stuck) Dn := p1
          split at p1
          · rename_i hl
            exact ⟨_, _, rfl, p1 _ H1 β1 ((r1.setVal q1 hl.1).setVal q2 (by rw [List.length_set]; exact hl.2)) (.refl _ _)⟩
          · exact p1.elim
    | [], _ => exact p1.elim
    | [_], _ => exact p1.elim
    | _ :: _ :: _ :: _, _ => exact p1.elim

theorem Rel.updOwn {ρ : Env} {S : Sto} {β : List Addr} {σ : L2.St} {H : Hp} {a : Addr} {vs ws : List V} {l m : List D} (h : Rel (zX X F) F ρ S β σ H) (e : ρ[i]? = some (.ol l)) (ev : σ[i]? = some (some (.ref a))) (ha : H a = some (.lst vs)) (nb : a ∉ β) (n0 : F.H0 a = none) (r : Reps (zX X F) β H ws m) :
    Rel (zX X F) F (ρ.set i (.ol m)) S β σ (upd H a (.lst ws)) := by
  have rp : ∀ {d : D} {v : V}, Rep (zX X F) β H v d → Rep (zX X F) β (upd H a (.lst ws)) v d := by
    have kT : ∀ {b : Addr} {ys : List V}, SqT X.K H b ys → SqT X.K (upd H a (.lst ws)) b ys := fun {b ys} q => by
      rcases q with (q | ⟨u, q⟩) | q
      · exact .inl (.inl (by rw [upd_ne (fun c => by rw [c, ha] at q; cases q)]; exact q))
      · exact .inl (.inr ⟨u, by rw [upd_ne (fun c => by rw [c, ha] at q; cases q)]; exact q⟩)
      · exact .inr q
    have kL : ∀ {b : Addr} {ys : List V}, ImL X.K H b ys → ImL X.K (upd H a (.lst ws)) b ys := fun {b ys} q => by
      rcases q with ⟨u, q⟩ | q
      · exact .inl ⟨u, by rw [upd_ne (fun c => by rw [c, ha] at q; cases q)]; exact q⟩
      · exact .inr q
    intro d
    exact Rep.rec (motive_1 := fun v d _ => Rep (zX X F) β (upd H a (.lst ws)) v d) (motive_2 := fun vs l _ => Reps (zX X F) β (upd H a (.lst ws)) vs l)
      .non .bl .int .str (fun q _ r => .tup (kT q) r) (fun q _ r => .lst (kL q) r) .obj .fn .adr .nil (fun _ _ r t => .cons r t)
  have rps : ∀ {vs : List V} {l : List D}, Reps (zX X F) β H vs l → Reps (zX X F) β (upd H a (.lst ws)) vs l := fun {vs l} r => by
    induction vs generalizing l with
    | nil => cases r; exact .nil
    | cons v vs ih => cases r with | cons r t => exact .cons (rp r) (ih t)
  have hi : i < ρ.length := (List.getElem?_eq_some_iff.mp e).1
  refine ⟨⟨h.sto.len, h.sto.nd, fun n so q => ?_⟩, ⟨h.ev.pre, h.ev.fresh, fun b u k c => ?_, fun b k => ?_⟩, fun p hp => ?_, by rw [List.length_set]; exact h.len, fun j sl q => ?_, fun j k s t b ne q1 q2 o1 o2 v1 v2 => ?_⟩
  · obtain ⟨b, h1, h2⟩ := h.sto.at_ n so q
    have nba : b ≠ a := fun c => nb (c ▸ List.mem_of_getElem? h1)
    refine ⟨b, h1, ?_⟩
    cases so with
    | cell l => obtain ⟨vs, g1, g2⟩ := h2; exact ⟨vs, by rw [upd_ne nba]; exact g1, rps g2⟩
    | ins C fs =>
      obtain ⟨Ca, dx, fvs, g1, g2, g3⟩ := h2
      exact ⟨Ca, dx, fvs, g1, by rw [upd_ne nba]; exact g2, Paired.mapP g3 fun p q r => ⟨r.1, rp r.2⟩⟩
  · rw [upd_ne (fun z => by rw [z, n0] at k; cases k)]; exact h.ev.keep b u k c
  · by_cases hb : b = a
    · rw [hb, upd_same] at k; cases k
    · rw [upd_ne hb] at k; exact h.ev.dom b k
  · obtain ⟨ps, q1, q2, q3⟩ := h.tab p hp
    refine ⟨ps, by rw [upd_ne (fun z => by rw [z, ha] at q1; cases q1)]; exact q1, q2, fun pos cv hc => ?_⟩
    obtain ⟨c, e1, e2⟩ := q3 pos cv hc
    exact ⟨c, e1, by rw [upd_ne (fun z => by rw [z, ha] at e2; unfold LamX.CodeO at e2; cases e2)]; exact e2⟩
  · by_cases hj : i = j
    · subst hj
      rw [List.getElem?_set_self hi] at q
      cases q
      exact ⟨a, ws, ev, upd_same, rps r, nb, n0⟩
    · rw [List.getElem?_set_ne hj] at q
      have g := h.slot j sl q
      cases sl with
      | un => trivial
      | val d => obtain ⟨x, h1, h2⟩ := g; exact ⟨x, h1, rp h2⟩
      | od k => exact g
      | ol l' =>
        obtain ⟨b, vs', h1, h2, h3, h4⟩ := g
        refine ⟨b, vs', h1, ?_, rps h3, h4⟩
        rw [upd_ne (fun z => h.own i j _ _ a hj e q rfl rfl ev (by rw [h1, z]))]
        exact h2
  · have fix : ∀ (m' : Nat) (s : Sl), (ρ.set i (.ol m))[m']? = some s → isOwn s = true → ∃ s', ρ[m']? = some s' ∧ isOwn s' = true := fun m' s q o => by
      by_cases hj : i = m'
      · subst hj; exact ⟨_, e, rfl⟩
      · rw [List.getElem?_set_ne hj] at q; exact ⟨s, q, o⟩
    obtain ⟨s', q1', o1'⟩ := fix j s q1 o1
    obtain ⟨t', q2', o2'⟩ := fix k t q2 o2
    exact h.own j k s' t' b ne q1' q2' o1' o2' v1 v2
theorem sv_upd {β : List Addr} {H : Hp} {a : Addr} {vs ws : List V} (ha : H a = some (.lst vs)) : Sv β H β (upd H a (.lst ws)) := ⟨fun b o h i => by
  rw [upd_ne (fun z => by rw [z, ha] at h; cases h; cases i)]
  exact h, fun _ _ h => h⟩
/-- x.append(e), x a list of its own -/
@[simp] def rApp (i : Nat) (r : Env → Sto → Res D) : RS := fun ρ S => match ρ[i]? with
  | some (.ol l) => (r ρ S).thenS fun d S1 => if l.length < lim then .nx (ρ.set i (.ol (l ++ [d]))) S1 else .stuck
  | _ => .stuck
theorem vs_app {px apos cpos : Pos} {r : Env → Sto → Res D} (hN : X.N[i]? = some x) (hv : Vis X.env.scope x) (h : VF X F W e r) (hd : (x == ("__debug__" : Str)) = false := by decide) (hcd : (x == ("__classdict__" : Str)) = false := by decide)
    (hbase : attributeBase (.Name x px) "append" X.env (eval (.Name x px) X.env) = eval (.Name x px) X.env := by rfl)
    (hfew : ((backTo cpos (starEach [e] X.env)).all (fun x => !x.1) && (backToKw cpos (keywordEach [] X.env)).all (fun x => x.1.isSome) && decide ([e].length + ([] : List Keyword).length + (if ([] : List Keyword).isEmpty then 0 else 1) < 30)) = true := by rfl)
    (hline : (apos.endLine == cpos.line) = true := by rfl) (hs1 : starEach [e] X.env = (false, eval e X.env) :: starEach [] X.env := by rfl) (hplain : (backTo cpos (starEach [] X.env)).any (·.1) = false := by rfl)
    (hs : swapsWith (.Call (.Attribute (.Name x px) "append" apos) [e] [] cpos) none pos.line X.env = pure false := by rfl) :
    VS1 X F W (.Expr (.Call (.Attribute (.Name x px) "append" apos) [e] [] cpos) pos) (rApp i r) :=
  ps_imp (ps_expr (pe_bm PySem.F.plainAttrs_list PySem.F.slot_list_append PySem.F.type_list_append mt_append (pe_var hN hv hd hcd) (pa_cons h pa_nil hs1) hbase hfew hline hs1 hplain) hs) fun Dn σ H ⟨ρ, S, β, hr, hp⟩ => by
    unfold rApp at hp
    split at hp
    · rename_i l0 e0
      obtain ⟨a, vs, e1, h1, h2, h3, h4⟩ := hr.slot i _ e0
      refine ⟨_, e1, .inl ⟨rfl, vs, .of h1⟩, ?_⟩
      refine tG_then hr hp fun v H1 d S1 β1 r1 ev1 c1 p1 => ?_
      obtain ⟨a', vs', e1', h1', h2', h3', h4'⟩ := r1.slot i _ e0
      rw [e1] at e1'
      cases e1'
      split at p1
      · rename_i hl
        have hlen : vs'.length < sizeLine := by rw [h2'.length]; exact Nat.lt_of_lt_of_le hl lim_le
        refine ⟨a, _, _, rfl, rfl, h1', hlen, ?_⟩
        exact p1 σ _ β1 (r1.updOwn e0 e1 h1' h3' h4' (h2'.append (.cons c1 .nil))) (sv_upd h1')
      · exact p1.elim
    · exact hp.elim
/-- x[k] = e, x a list of its own -/
@[simp] def setAtK (ρ : Env) (i : Nat) (l : List D) (d : D) (S : Sto) (k : D) : Fl := match k with
  | .int k => (match ixN l.length k with
    | some j => .nx (ρ.set i (.ol (l.set j d))) S
    | none => .stuck)
  | _ => .stuck
@[simp] def rSetAt (i : Nat) (rk r : Env → Sto → Res D) : RS := fun ρ S => (r ρ S).thenS fun d S1 => match ρ[i]? with
  | some (.ol l) => (rk ρ S1).thenS fun k S2 => setAtK ρ i l d S2 k
  | _ => .stuck
theorem vs_setAt {px ps : Pos} {k : Expr} {r rk : Env → Sto → Res D} (hN : X.N[i]? = some x) (hv : Vis X.env.scope x) (hk : VF X F W k rk) (h : VF X F W e r) (hd : (x == ("__debug__" : Str)) = false := by decide) (hcd : (x == ("__classdict__" : Str)) = false := by decide)
    (ha : ∀ v, assign (.Subscript (.Name x px) k ps) X.env v = (do
      let ov ← holding [v] (eval (.Name x px) X.env)
      let iv ← holding [v, ov] (eval k X.env)
      standAt ps
      holding [v, ov, iv] (setItem ov iv v)
      release [v, ov, iv] []) := by intro _; rfl)
    (hs : swapsWithSole [.Subscript (.Name x px) k ps] e pos.line X.env = pure false := by rfl) (hw : swappedStores [.Subscript (.Name x px) k ps] e X.env = pure none := by rfl) (h1 : (assignEach [.Subscript (.Name x px) k ps] X.env).map (·.2) = [assign (.Subscript (.Name x px) k ps) X.env] := by rfl) :
    VS1 X F W (.Assign [.Subscript (.Name x px) k ps] e pos) (rSetAt i rk r) :=
  ps_imp (ps_asg h (pg_sub (pe_var hN hv hd hcd) hk set_list ha) hs hw h1) fun Dn σ H ⟨ρ, S, β, hr, hp⟩ => by
    refine tG_then hr hp fun v H1 d S1 β1 r1 ev1 c1 p1 => ?_
    split at p1
    · rename_i l0 e0
      obtain ⟨a, vs, e1, h1, h2, h3, h4⟩ := r1.slot i _ e0
      refine ⟨_, e1, ?_⟩
      refine tG_then r1 p1 fun kv H2 kd S2 β2 r2 ev2 c2 p2 => ?_
      obtain ⟨a', vs', e1', h1', h2', h3', h4'⟩ := r2.slot i _ e0
      rw [e1] at e1'
      cases e1'
      cases kd with
      | int k =>
        cases c2
        have p2 : PostS X F W β2 H2 (match ixN l0.length k with | some j => .nx (ρ.set i (.ol (l0.set j d))) S2 | none => .stuck) Dn := p2
        cases ej : ixN l0.length k with
        | none => rw [ej] at p2; exact p2.elim
        | some j =>
          rw [ej] at p2
          refine ⟨a, vs', k, j, rfl, rfl, h1', by rw [h2'.length]; exact ej, ?_⟩
          exact p2 σ _ β2 (r2.updOwn e0 e1 h1' h3' h4' (h2'.set (c1.mono ev2) j)) (sv_upd h1')
      | _ => exact p2.elim
    · exact p1.elim
end

def resOf : Fl → Res D
  | .nx _ S => .ok .non S
  | .rt d S => .ok d S
  | .exc x S => .exc x S
  | _ => .stuck
def env0 (n : Nat) (ds : List D) : Env := ds.map .val ++ List.replicate (n - ds.length) .un
theorem rel_start {Z : Wd} {T : List (Addr × Str)} {N : List Str} {S : Sto} {β : List Addr} {ds : List D} {vs : List V} {H : Hp} (hs : StR Z β S H) (ht : LamX.Tabs T H) (hr : Reps Z β H vs ds) : Rel Z ⟨T, H, β⟩ (env0 N.length ds) S β (L2.start N vs) H := by
  have hl := hr.length
  have nown : ∀ (j : Nat) (s : Sl), (env0 N.length ds)[j]? = some s → isOwn s = false := fun j s q => by
    have m := List.mem_of_getElem? q
    unfold env0 at m
    rcases List.mem_append.mp m with m | m
    · obtain ⟨d, _, e⟩ := List.mem_map.mp m
      rw [← e]
      rfl
    · rw [(List.mem_replicate.mp m).2]
      rfl
  refine ⟨hs, .refl _ _, ht, by unfold env0 L2.start; simp [hl], fun j sl q => ?_, fun j k s t a ne q1 q2 o1 o2 _ _ => ?_⟩
  · unfold env0 at q
    by_cases hj : j < ds.length
    · rw [List.getElem?_append_left (by simpa using hj), List.getElem?_map] at q
      cases e : ds[j]? with
      | none => rw [e] at q; cases q
      | some d =>
        rw [e] at q
        cases q
        obtain ⟨v, h1, h2⟩ := hr.get e
        refine ⟨v, ?_, h2⟩
        unfold L2.start
        rw [List.getElem?_append_left (by simp [hl]; exact hj), List.getElem?_map, h1]
        rfl
    · have m := List.mem_of_getElem? q
      rw [List.getElem?_append_right (by simpa using hj)] at q
      have m := List.mem_of_getElem? q
      rw [(List.mem_replicate.mp m).2]
      trivial
  · rw [nown j s q1] at o1
    cases o1
section
variable {P : Program} {w : World} {K : PySem.W.Frag} {mg : Str → Option Value} {base : Heap} {T : List (Addr × Str)}
/-- the code object of the def at f -/
def codeAt (K : PySem.W.Frag) (f : Addr) : Value := match K.lookup f with
  | some ⟨_, _, .func fd, _⟩ => fd.code
  | _ => .none
/-- a def by its body -/
theorem fn_ok {x qual : Str} {st : Stmt} {f : Addr} {fd : FuncData} {N ps : List Str} {k : Nat} {Fn : List D → Sto → Res D} (G : Fun K x qual st f fd) (S : FnScope N ps (defScope st)) (r : RS)
    (hbody : ∀ (cdv : Value) (A : Around) (outer : List PySem.Env) (s : Shared) (H : Hp) (E : XK) (F : Fr), F.T = T → codeAt K f = cdv → Room k (A.deeper (envOfC qual (defScope st) s.heap.objs.size f cdv)) →
      L2N.Takes (cxOf (L2N.CX P w) P w K mg base N qual (defScope st) f cdv A outer s H E) (fun cls d _ H' => E cls d H') →
      VSs (cxOf (L2N.CX P w) P w K mg base N qual (defScope st) f cdv A outer s H E) F (fun cls d _ H' => E cls d H') (defBody st) r)
    (heq : ∀ ds S, ds.length = ps.length → Fn ds S ≠ .stuck → resOf (r (env0 N.length ds) S) = Fn ds S) : FnOk P w K mg base (L2N.CX P w) (k + 1) f fd ps (spF ⟨K, mg, T⟩ ps.length Fn) := by
  obtain ⟨oc, od, kV, doc, pm, an, cdv, ct, osl, rfl, lk, hcd⟩ := G.ex
  refine fn_of lk hcd S (fun vs H Q E h => h.1) fun A outer s H vs Q E hr hsp => ?_
  obtain ⟨hl, St, β, ds, h1, h2, h3, h4⟩ := hsp
  have tk : L2N.Takes (cxOf (L2N.CX P w) P w K mg base N qual (defScope st) f cdv A outer s H E) (fun cls d _ H' => E cls d H') := L2N.takes_of rfl rfl rfl rfl
  refine ⟨_, hbody cdv A outer s H E ⟨T, H, β⟩ rfl (by unfold codeAt; rw [lk]) hr tk, env0 N.length ds, St, β, rel_start h1 h2 h3, ?_⟩
  have e := heq ds St (by rw [← h3.length]; exact hl) fun z => by rw [z] at h4; exact h4
  rw [← e] at h4
  cases e2 : r (env0 N.length ds) St with
  | nx ρ' S' =>
    rw [e2] at h4
    exact fun σ' H' β' a _ => h4 .non H' β' a.sto a.tab a.ev .non
  | rt d S' =>
    rw [e2] at h4
    exact fun v H' β' a b c d => h4 v H' β' a b c d
  | exc x S' =>
    rw [e2] at h4
    exact fun cls dd σ' H' β' a b c d => h4 cls dd H' β' a b c d
  | bk ρ' S' => rw [e2] at h4; exact h4.elim
  | ct ρ' S' => rw [e2] at h4; exact h4.elim
  | stuck => rw [e2] at h4; exact h4.elim
theorem fn_mk {x qual : Str} {st : Stmt} {f : Addr} {fd : FuncData} {N ps : List Str} {k : Nat} {Fn : List D → Sto → Res D} (G : Fun K x qual st f fd) (S : FnScope N ps (defScope st)) (hm : mg x = some (.ref f)) (hb : Binds K fd ps []) (r : RS)
    (hbody : ∀ (cdv : Value) (A : Around) (outer : List PySem.Env) (s : Shared) (H : Hp) (E : XK) (F : Fr), F.T = T → codeAt K f = cdv → Room k (A.deeper (envOfC qual (defScope st) s.heap.objs.size f cdv)) →
      L2N.Takes (cxOf (L2N.CX P w) P w K mg base N qual (defScope st) f cdv A outer s H E) (fun cls d _ H' => E cls d H') →
      VSs (cxOf (L2N.CX P w) P w K mg base N qual (defScope st) f cdv A outer s H E) F (fun cls d _ H' => E cls d H') (defBody st) r)
    (heq : ∀ ds S, ds.length = ps.length → Fn ds S ≠ .stuck → resOf (r (env0 N.length ds) S) = Fn ds S) : HasFn P w K mg base T x (k + 1) ps.length Fn := ⟨f, fd, ps, fn_ok G S r hbody heq, hm, G.kp, hb⟩
/-- the table of the lambdas that the def x at f makes -/
structure LamT (K : PySem.W.Frag) (mg : Str → Option Value) (base : Heap) (T : List (Addr × Str)) (x : Str) : Prop where
  ex : ∀ f, mg x = some (.ref f) → ∃ c P, codeAt K f = .ref c ∧ LamX.TabB base mg c P ∧ (P, (x ++ ".<locals>.") ++ "<lambda>") ∈ T ∧ ∀ p ∈ T, p.1 = P → p.2 = (x ++ ".<locals>.") ++ "<lambda>"
end
end VS

set_option maxHeartbeats 2000000
namespace VS
open PySem PySem.Spec PyProof.Rows L2

structure ItD (Z : Wd) (J : It) (l : List D) (G : List Addr → Hp → Prop) : Prop where
  go : ∀ (i : Nat) β H, G β H → i < l.length → J.go i H
  yld : ∀ (i : Nat) β H x H', G β H → J.yld i H x H' → ∀ d, l[i]? = some d → Same H H' ∧ Rep Z β H' x d
  stop : ∀ (i : Nat) β H, G β H → l.length ≤ i → J.stop i H
def StabS (G : List Addr → Hp → Prop) : Prop := ∀ β H β' H', G β H → Sv β H β' H' → G β' H'
def StabE (G : List Addr → Hp → Prop) : Prop := ∀ β H β' H', G β H → Ev β H β' H' → G β' H'
abbrev RI (Z : Wd) : RR It (List D) := fun _ β' H' J l => ∃ G, ItD Z J l G ∧ G β' H' ∧ StabS G
abbrev RIe (Z : Wd) : RR It (List D) := fun _ β' H' J l => ∃ G, ItD Z J l G ∧ G β' H' ∧ StabE G
theorem anti_I {X : Cx} {F : Fr} : Anti (RI (zX X F)) := fun _ _ _ _ _ _ _ _ _ h => h
theorem anti_Ie {X : Cx} {F : Fr} : Anti (RIe (zX X F)) := fun _ _ _ _ _ _ _ _ _ h => h
abbrev VI (X : Cx) (F : Fr) (W : WX) (tg it : Expr) (r : Env → Sto → Res (List D)) : Prop := PI X tg it (tG (zX X F) F W (RI (zX X F)) r)
abbrev VIe (X : Cx) (F : Fr) (W : WX) (tg it : Expr) (r : Env → Sto → Res (List D)) : Prop := PI X tg it (tG (zX X F) F W (RIe (zX X F)) r)
theorem pi_imp {X : Cx} {tg it : Expr} {t t' : TI} (h : PI X tg it t) (m : ∀ σ H Q, t' σ H Q → t σ H Q) : PI X tg it t' := ⟨fun pins s σ H Q I q => h.run pins s σ H Q I (m _ _ _ q)⟩
section
variable {X : Cx} {F : Fr} {W : WX} {tg it : Expr}
theorem vie_of_vi {r : Env → Sto → Res (List D)} (h : VI X F W tg it r) : VIe X F W tg it r := pi_imp h fun σ H Q q => by
  obtain ⟨ρ, S, β, hr, hp⟩ := q
  refine ⟨ρ, S, β, hr, ?_⟩
  cases e : r ρ S with
  | ok d S' =>
    rw [e] at hp
    exact fun v H' β' a b ⟨G, c1, c2, c3⟩ => hp v H' β' a b ⟨G, c1, c2, fun β H β' H' g e => c3 _ _ _ _ g e.sv⟩
  | exc x S' => rw [e] at hp; exact hp
  | stuck => rw [e] at hp; exact hp
/-- a list or a tuple -/
def iSeq (K : PySem.W.Frag) (tl : TE) : TI := fun σ H R => tl σ H fun x H1 => ∃ a, x = .ref a ∧ (((∃ xs, SqL K H1 a xs) ∧ R (Itl K a) H1) ∨ ((∃ xs, SqT K H1 a xs) ∧ R (Itt K a) H1))
theorem pi_seq {l : Expr} {tl : TE} (hl : PE X l tl) : PI X tg l (iSeq X.K tl) := by
  refine ⟨fun pins s σ H R I h => ?_⟩
  refine thn (hl.run pins s σ H _ I h) fun v s1 ⟨x, H1, I1, r1, q1⟩ => ?_
  obtain ⟨a, e, q⟩ := q1
  subst e
  cases r1
  rcases q with ⟨⟨xs, hq⟩, q⟩ | ⟨⟨xs, hq⟩, q⟩
  · obtain ⟨its, rv, p, hz⟩ := I1.list hq
    refine wpAny_pyIter_list p.isList ?_
    refine ⟨s1.heap.objs.size, [s1.heap.objs.size], _, _, H1, rfl, I1.kept (t' := s1.toks) fun b o e => Heap.get?_push_of_some _ e, turn_list a _, ⟨_, Heap.get?_push_size _ rfl, rfl, rfl⟩, fun b hb => ?_, q⟩
    have e : b = s1.heap.objs.size := by simpa using hb
    subst e
    exact I1.fpOk (Nat.le_refl _) (I1.hok.fresh (Nat.le_refl _))
  · obtain ⟨its, rv, p, hz⟩ := I1.tuple hq
    refine wpAny_pyIter_tuple (show s1.heap.IsTuple a its.toArray from p) ?_
    refine ⟨s1.heap.objs.size, [s1.heap.objs.size], _, _, H1, rfl, I1.kept (t' := s1.toks) fun b o e => Heap.get?_push_of_some _ e, turn_tuple a _, ⟨_, Heap.get?_push_size _ rfl, rfl, rfl⟩, fun b hb => ?_, q⟩
    have e : b = s1.heap.objs.size := by simpa using hb
    subst e
    exact I1.fpOk (Nat.le_refl _) (I1.hok.fresh (Nat.le_refl _))
theorem itl_D {Z : Wd} {a : Addr} {l : List D} {G : List Addr → Hp → Prop} (h : ∀ β H, G β H → ∃ vs, SqL Z.K H a vs ∧ Reps Z β H vs l) : ItD Z (Itl Z.K a) l G where
  go := fun i β H g hi => by
    obtain ⟨vs, h1, h2⟩ := h β H g
    obtain ⟨v, e, _⟩ := h2.get (List.getElem?_eq_getElem hi)
    exact ⟨vs, v, h1, e⟩
  yld := fun i β H x H' g y d hd => by
    obtain ⟨vs, h1, h2⟩ := h β H g
    obtain ⟨e, y⟩ := y
    subst e
    obtain ⟨v, e, r⟩ := h2.get hd
    have := y vs h1
    rw [e] at this
    cases this
    exact ⟨.refl _, r⟩
  stop := fun i β H g hi => by
    obtain ⟨vs, h1, h2⟩ := h β H g
    exact ⟨vs, h1, by rw [h2.length]; exact hi⟩
theorem itt_D {Z : Wd} {a : Addr} {l : List D} {G : List Addr → Hp → Prop} (h : ∀ β H, G β H → ∃ vs, SqT Z.K H a vs ∧ Reps Z β H vs l) : ItD Z (Itt Z.K a) l G where
  go := fun i β H g hi => by
    obtain ⟨vs, h1, h2⟩ := h β H g
    obtain ⟨v, e, _⟩ := h2.get (List.getElem?_eq_getElem hi)
    exact ⟨vs, v, h1, e⟩
  yld := fun i β H x H' g y d hd => by
    obtain ⟨vs, h1, h2⟩ := h β H g
    obtain ⟨e, y⟩ := y
    subst e
    obtain ⟨v, e, r⟩ := h2.get hd
    have := y vs h1
    rw [e] at this
    cases this
    exact ⟨.refl _, r⟩
  stop := fun i β H g hi => by
    obtain ⟨vs, h1, h2⟩ := h β H g
    exact ⟨vs, h1, by rw [h2.length]; exact hi⟩
/-- the items of a list or tuple -/
def itemsD : D → Option (List D)
  | .tup l => some l
  | .lst l => some l
  | _ => none
@[simp] def rItems (r : Env → Sto → Res D) : Env → Sto → Res (List D) := fun ρ S => (r ρ S).bind fun d S1 => optR (itemsD d) S1
theorem vi_seq {r : Env → Sto → Res D} (h : VF X F W it r) : VI X F W tg it (rItems r) := pi_imp (pi_seq h) fun σ H Q q => by
  obtain ⟨ρ, S, β, hr, hp⟩ := q
  refine tG_bind anti_I hr hp fun x H1 d S1 β1 r1 e1 c1 p1 => ?_
  cases c1 with
  | @tup a vs l h1 g1 =>
    refine ⟨_, rfl, .inr ⟨⟨_, h1⟩, tG_end r1 p1 (.refl _) ⟨fun β H => ∃ vs, SqT X.K H a vs ∧ Reps (zX X F) β H vs l, itt_D fun β H g => g, ⟨_, h1, g1⟩, ?_⟩⟩⟩
    exact fun β H β' H' ⟨vs, q1, q2⟩ s => ⟨vs, s.sqT q1, q2.monoS s⟩
  | @lst a vs l h1 g1 =>
    refine ⟨_, rfl, .inl ⟨⟨_, h1.sq⟩, tG_end r1 p1 (.refl _) ⟨fun β H => ∃ vs, ImL X.K H a vs ∧ Reps (zX X F) β H vs l, itl_D fun β H ⟨vs, q1, q2⟩ => ⟨vs, q1.sq, q2⟩, ⟨_, h1, g1⟩, ?_⟩⟩⟩
    exact fun β H β' H' ⟨vs, q1, q2⟩ s => ⟨vs, s.imL q1, q2.monoS s⟩
  | _ => exact p1.elim
theorem vie_seq {r : Env → Sto → Res D} (h : VX X F W it r) : VIe X F W tg it (rItems r) := pi_imp (pi_seq h) fun σ H Q q => by
  obtain ⟨ρ, S, β, hr, hp⟩ := q
  refine tG_bind anti_Ie hr hp fun x H1 d S1 β1 r1 e1 c1 p1 => ?_
  cases d with
  | tup l =>
    cases c1.rep (fun _ z => by cases z) with
    | @tup a vs l h1 g1 =>
      refine ⟨_, rfl, .inr ⟨⟨_, h1⟩, tG_end r1 p1 (.refl _) ⟨fun β H => ∃ vs, SqT X.K H a vs ∧ Reps (zX X F) β H vs l, itt_D fun β H g => g, ⟨_, h1, g1⟩, ?_⟩⟩⟩
      exact fun β H β' H' ⟨vs, q1, q2⟩ s => ⟨vs, s.sqT q1, q2.mono s⟩
  | lst l =>
    have ls := c1.ls
    obtain ⟨a, vs, e0, g, h0⟩ := id ls
    subst e0
    obtain ⟨a', vs', e0, g', h1⟩ := ls.sq
    cases e0
    refine ⟨_, rfl, .inl ⟨⟨_, h1⟩, tG_end r1 p1 (.refl _) ⟨fun β H => LsR (zX X F) β H (.ref a) l, itl_D fun β H g => ?_, c1.ls, fun β H β' H' g s => g.mono s⟩⟩⟩
    obtain ⟨b, ws, e2, q1, q2⟩ := g.sq
    cases e2
    exact ⟨ws, q2, q1⟩
  | _ => exact p1.elim
/-- range(n) -/
def rangeD : List D → Option (List D)
  | [.int n] => if -1000 < n ∧ n < 1000000 then some ((List.range n.toNat).map fun (k : Nat) => .int k) else none
  | _ => none
theorem itr_D {Z : Wd} {n : Nat} : ItD Z (Itr 0 n) ((List.range n).map fun (k : Nat) => D.int k) fun _ _ => True where
  go := fun i β H _ hi => by
    have : i < n := by simpa using hi
    exact this
  yld := fun i β H x H' _ y d hd => by
    obtain ⟨e, y⟩ := y
    subst e y
    refine ⟨.refl _, ?_⟩
    have hi : i < n := by
      have := (List.getElem?_eq_some_iff.mp hd).1
      simpa using this
    rw [List.getElem?_map, List.getElem?_range hi] at hd
    cases hd
    have e : (0 : Int) + (i : Int) = (i : Int) := by omega
    rw [e]
    exact .int _
  stop := fun i β H _ hi => by
    have : n ≤ i := by simpa using hi
    exact this
theorem vi_range {a : Expr} {p pos : Pos} {r : Env → Sto → Res (List D)} (ha : VAX X F W [a] r) (hm : X.mg "range" = none) (hg : Gl X "range" := by rfl) (hs : starEach [a] X.env = [(false, eval a X.env)] := by rfl) : VI X F W tg (.Call (.Name "range" p) [a] [] pos) (rCl rangeD r) := pi_imp (pi_range1 hg hm ha hs) fun σ H Q q => by
  obtain ⟨ρ, S, β, hr, hp⟩ := q
  refine tG_bind anti_I hr hp fun x H1 d S1 β1 r1 e1 c1 p1 => ?_
  match d, c1 with
  | [.int n], c1 =>
    obtain ⟨v, rfl, c2⟩ := one_arg c1
    cases c2.rep (fun _ z => by cases z)
    have p1 : Post (zX X F) F W ρ σ β1 H1 (RI (zX X F)) (optR (if -1000 < n ∧ n < 1000000 then some ((List.range n.toNat).map fun (k : Nat) => D.int k) else none) S1) Q := p1
    split at p1
    · rename_i hn
      exact ⟨n, rfl, by omega, by omega, tG_end r1 p1 (.refl _) ⟨_, itr_D, trivial, fun _ _ _ _ _ _ => trivial⟩⟩
    · exact p1.elim
  | [], _ => exact p1.elim
  | [.non], _ => exact p1.elim
  | [.bl _], _ => exact p1.elim
  | [.str _], _ => exact p1.elim
  | [.tup _], _ => exact p1.elim
  | [.lst _], _ => exact p1.elim
  | [.obj _], _ => exact p1.elim
  | [.fn _], _ => exact p1.elim
  | [.adr _], _ => exact p1.elim
  | x :: _ :: _, _ => cases x <;> exact p1.elim
end

def forL (g : D → Env → Option Env) (b : RS) : List D → RS
  | [], ρ, S => .nx ρ S
  | d :: r, ρ, S => match g d ρ with
    | none => .stuck
    | some ρ1 => match b ρ1 S with
      | .nx ρ2 S2 => forL g b r ρ2 S2
      | .ct ρ2 S2 => forL g b r ρ2 S2
      | .bk ρ2 S2 => .nx ρ2 S2
      | .rt d S2 => .rt d S2
      | .exc x S2 => .exc x S2
      | .stuck => .stuck
@[simp] def rFor (ri : Env → Sto → Res (List D)) (g : D → Env → Option Env) (b : RS) : RS := fun ρ S => (ri ρ S).thenS fun l S1 => forL g b l ρ S1
section
variable {X : Cx} {F : Fr} {W : WX} {tg it : Expr}
theorem vs_for {body : List Stmt} {ri : Env → Sto → Res (List D)} {ix : List Nat} {g : D → Env → Option Env} {b : RS} {pos : Pos} (hp : PassesOwn (model X.prog X.w) X.A X.env X.xe) (hc : X.calm = true) (hi : VI X F W tg it ri) (hg : VG X F tg ix g) (hb : VSs X F W body b)
    (hs : ∀ x, foldedSetIterable it X.env x = pure x := by intro _; rfl) : VS1 X F W (.For tg it body [] pos) (rFor ri g b) := ps_imp (ps_for hp hc hi hg hb hs) fun Dn σ H ⟨ρ, S, β, hr, hq⟩ => by
  refine tG_then hr hq fun J H1 l S1 β1 r1 e1 c1 p1 => ?_
  obtain ⟨G, I, g0, st⟩ := c1
  refine ⟨fun i m σ H => m = l.length - i ∧ i ≤ l.length ∧ ∃ ρ S β, Rel (zX X F) F ρ S β σ H ∧ G β H ∧ PostS X F W β H (forL g b (l.drop i) ρ S) Dn, ⟨l.length, rfl, Nat.zero_le _, ρ, S1, β1, r1, g0, p1⟩, ?_⟩
  rintro i m σ H ⟨rfl, hil, ρ, S, β, hr, hG, hp⟩
  by_cases hlt : i < l.length
  · refine .inr ⟨I.go i β H hG hlt, fun σ' H' => i + 1 ≤ l.length ∧ ∃ ρ S β, Rel (zX X F) F ρ S β σ' H' ∧ G β H' ∧ PostS X F W β H' (forL g b (l.drop (i + 1)) ρ S) Dn, fun σ' H' ⟨h1, q⟩ => ⟨l.length - (i + 1), by omega, rfl, h1, q⟩, fun x H' y => ?_⟩
    obtain ⟨sm, rx⟩ := I.yld i β H x H' hG y l[i] (List.getElem?_eq_getElem hlt)
    rw [List.drop_eq_getElem_cons hlt] at hp
    have hp : PostS X F W β H (match g l[i] ρ with
      | none => .stuck
      | some ρ1 => match b ρ1 S with
        | .nx ρ2 S2 => forL g b (l.drop (i + 1)) ρ2 S2
        | .ct ρ2 S2 => forL g b (l.drop (i + 1)) ρ2 S2
        | .bk ρ2 S2 => .nx ρ2 S2
        | .rt d S2 => .rt d S2
        | .exc x S2 => .exc x S2
        | .stuck => .stuck) Dn := hp
    cases eg : g l[i] ρ with
    | none => rw [eg] at hp; exact hp.elim
    | some ρ1 =>
      rw [eg] at hp
      have svs : Sv β H β H' := (Ev.of sm).sv
      refine ⟨ρ, S, β, l[i], hr.same sm, rx, ρ1, eg, fun σ2 r2 _ => ⟨ρ1, S, β, r2, ?_⟩⟩
      have hG2 : G β H' := st _ _ _ _ hG svs
      have hp := PostS.later svs hp
      have hp : PostS X F W β H' (match b ρ1 S with
        | .nx ρ2 S2 => forL g b (l.drop (i + 1)) ρ2 S2
        | .ct ρ2 S2 => forL g b (l.drop (i + 1)) ρ2 S2
        | .bk ρ2 S2 => .nx ρ2 S2
        | .rt d S2 => .rt d S2
        | .exc x S2 => .exc x S2
        | .stuck => .stuck) Dn := hp
      cases eb : b ρ1 S with
      | nx ρ2 S2 =>
        rw [eb] at hp
        exact fun σ3 H3 β3 r3 s3 => ⟨hlt, ρ2, S2, β3, r3, st _ _ _ _ hG2 s3, PostS.later s3 hp⟩
      | ct ρ2 S2 =>
        rw [eb] at hp
        exact fun σ3 H3 β3 r3 s3 => ⟨hlt, ρ2, S2, β3, r3, st _ _ _ _ hG2 s3, PostS.later s3 hp⟩
      | bk ρ2 S2 =>
        rw [eb] at hp
        exact hp
      | rt d S2 => rw [eb] at hp; exact hp
      | exc x S2 => rw [eb] at hp; exact hp
      | stuck => rw [eb] at hp; exact hp
  · have e : i = l.length := by omega
    subst e
    rw [List.drop_length] at hp
    exact .inl ⟨I.stop _ β H hG (Nat.le_refl _), hp σ H β hr (.refl _ _)⟩
end

def Res.nox {α : Type} (r : Res α) : Res α := match r with
  | .exc _ _ => .stuck
  | o => o
@[simp] theorem Res.nox_ok {α : Type} (a : α) (S : Sto) : (Res.ok a S).nox = .ok a S := rfl
@[simp] theorem Res.nox_stuck {α : Type} : (Res.stuck : Res α).nox = .stuck := rfl
def wipeE (ρ : Env) : List Nat → Env
  | [] => ρ
  | v :: vs => (wipeE ρ vs).set v .un
def lcL (g : D → Env → Option Env) (t : Env → Sto → Res Bool) (e : Env → Sto → Res D) (ρ : Env) : List D → List D → Sto → Res (List D)
  | [], acc, S => .ok acc S
  | d :: r, acc, S => match g d ρ with
    | none => .stuck
    | some ρ1 => ((t ρ1 S).nox).bind fun b S1 => if b = true then ((e ρ1 S1).nox).bind fun y S2 => if acc.length < lim then lcL g t e ρ r (acc ++ [y]) S2 else .stuck else lcL g t e ρ r acc S1
@[simp] def rLc (ri : Env → Sto → Res (List D)) (vs : List Nat) (g : D → Env → Option Env) (t : Env → Sto → Res Bool) (e : Env → Sto → Res D) : Env → Sto → Res (List D) := fun ρ S => (ri ρ S).bind fun l S1 => lcL g t e (wipeE ρ vs) l [] S1
abbrev W0 : WX := fun _ _ _ _ => False
theorem Rel.step {X : Cx} {F : Fr} {ρ : Env} {S S' : Sto} {β β' : List Addr} {σ : L2.St} {H H' : Hp} (h : Rel (zX X F) F ρ S β σ H) (a : StR (zX X F) β' S' H') (b : LamX.Tabs F.T H') (c : Ev β H β' H') : Rel (zX X F) F ρ S' β' σ H' := by
  refine ⟨a, h.ev.trans c, b, h.len, fun i sl q => ?_, h.own⟩
  have g := h.slot i sl q
  cases sl with
  | un => trivial
  | val d => obtain ⟨y, g1, g2⟩ := g; exact ⟨y, g1, g2.mono c⟩
  | od _ => exact g
  | ol l =>
    obtain ⟨y, ws, g1, g2, g3, g4, g5⟩ := g
    exact ⟨y, ws, g1, c.keep _ _ g2 (.inr ⟨g4, rfl⟩), g3.mono c, c.notin g2 g4, g5⟩
theorem Rel.setUn {X : Cx} {F : Fr} {ρ : Env} {S : Sto} {β : List Addr} {σ : L2.St} {H : Hp} (h : Rel (zX X F) F ρ S β σ H) (i : Nat) : Rel (zX X F) F (ρ.set i .un) S β (σ.set i none) H := by
  have fix : ∀ (m : Nat) (s : Sl), (ρ.set i .un)[m]? = some s → s = .un ∨ (i ≠ m ∧ ρ[m]? = some s) := fun m s q => by
    by_cases hj : i = m
    · subst hj
      have hl : i < ρ.length := by
        have := (List.getElem?_eq_some_iff.mp q).1
        simpa using this
      rw [List.getElem?_set_self hl] at q
      cases q
      exact .inl rfl
    · rw [List.getElem?_set_ne hj] at q
      exact .inr ⟨hj, q⟩
  refine ⟨h.sto, h.ev, h.tab, by rw [List.length_set, List.length_set, h.len], fun j sl q => ?_, fun j k s t a ne q1 q2 o1 o2 v1 v2 => ?_⟩
  · rcases fix j sl q with e | ⟨n, e⟩
    · subst e; trivial
    · rw [List.getElem?_set_ne n]; exact h.slot j sl e
  · rcases fix j s q1 with e | ⟨n1, e1⟩
    · subst e; cases o1
    · rcases fix k t q2 with e | ⟨n2, e2⟩
      · subst e; cases o2
      · rw [List.getElem?_set_ne n1] at v1
        rw [List.getElem?_set_ne n2] at v2
        exact h.own j k s t a ne e1 e2 o1 o2 v1 v2
theorem Rel.wipe {X : Cx} {F : Fr} {ρ : Env} {S : Sto} {β : List Addr} {σ : L2.St} {H : Hp} (h : Rel (zX X F) F ρ S β σ H) : ∀ vs : List Nat, Rel (zX X F) F (wipeE ρ vs) S β (L2.wipe σ vs) H
  | [] => h
  | v :: vs => (Rel.wipe h vs).setUn v
section
variable {X : Cx} {F : Fr} {W : WX} {tg it elt : Expr}
/-- the contexts of a comprehension's turns -/
abbrev InBlk (X : Cx) (scope : Scope) (p : Cx → Prop) : Prop := ∀ (s : Shared) (H : Hp) (C : Addr) (cl : List (Str × Addr)) (fp : List Addr), p (X.blk s H scope (compEnvC scope cl C X.env) fp)
theorem lc_read {ri : Env → Sto → Res (List D)} {vs ix : List Nat} {g : D → Env → Option Env} {t : Env → Sto → Res Bool} {e : Env → Sto → Res D} (hix : ∀ i ∈ ix, i ∈ vs) {σ : L2.St} {H : Hp} {Q : VK} (q : tG (zX X F) F W (RO (zX X F)) (rLc ri vs g t e) σ H Q) :
    tLc (tG (zX X F) F W (RIe (zX X F)) ri) (tGt (zX X F) F ix g) (tG (zX X F) F W0 RT t) (tG (zX X F) F W0 (RF (zX X F)) e) vs σ H Q := by
  obtain ⟨ρ, S, β, hr, hp⟩ := q
  refine tG_bind anti_O hr hp fun J H1 l S1 β1 r1 e1 c1 p1 => ?_
  obtain ⟨G, I, g0, st⟩ := c1
  intro Da nD
  have nDH : H Da = none := e1.dom Da nD
  have ev0 : ∀ {x : List V}, Ev β1 H1 β1 (upd H1 Da (.lst x)) := fun {x} => .of (.new nD)
  refine ⟨fun i m H' => m = l.length - i ∧ i ≤ l.length ∧ ∃ S' β' ws acc, StR (zX X F) β' S' H' ∧ LamX.Tabs F.T H' ∧ Ev β1 H1 β' H' ∧ H' Da = some (.lst ws) ∧ Reps (zX X F) β' H' ws acc ∧ Da ∉ β' ∧ G β' H' ∧ Post (zX X F) F W ρ σ β1 H1 (RO (zX X F)) (lcL g t e (wipeE ρ vs) (l.drop i) acc S') Q,
    ⟨l.length, rfl, Nat.zero_le _, S1, β1, [], [], r1.sto.same (.new nD), r1.tab.ext (Same.new nD), ev0, upd_same, .nil, r1.sto.notin nD, st _ _ _ _ g0 ev0, p1⟩, ?_⟩
  rintro i m H' ⟨rfl, hil, S', β', ws, acc, a1, a2, a3, a4, a5, a6, a7, hp⟩
  by_cases hlt : i < l.length
  · refine .inr ⟨I.go i β' H' a7 hlt, fun H' => i + 1 ≤ l.length ∧ ∃ S' β' ws acc, StR (zX X F) β' S' H' ∧ LamX.Tabs F.T H' ∧ Ev β1 H1 β' H' ∧ H' Da = some (.lst ws) ∧ Reps (zX X F) β' H' ws acc ∧ Da ∉ β' ∧ G β' H' ∧ Post (zX X F) F W ρ σ β1 H1 (RO (zX X F)) (lcL g t e (wipeE ρ vs) (l.drop (i + 1)) acc S') Q,
      fun H' ⟨h1, q⟩ => ⟨l.length - (i + 1), by omega, rfl, h1, q⟩, fun x H2 y => ?_⟩
    obtain ⟨sm, rx⟩ := I.yld i β' H' x H2 a7 y l[i] (List.getElem?_eq_getElem hlt)
    rw [List.drop_eq_getElem_cons hlt] at hp
    have hp : Post (zX X F) F W ρ σ β1 H1 (RO (zX X F)) (match g l[i] (wipeE ρ vs) with
      | none => .stuck
      | some ρ1 => ((t ρ1 S').nox).bind fun b S1 => if b = true then ((e ρ1 S1).nox).bind fun y S2 => if acc.length < lim then lcL g t e (wipeE ρ vs) (l.drop (i + 1)) (acc ++ [y]) S2 else .stuck else lcL g t e (wipeE ρ vs) (l.drop (i + 1)) acc S1) Q := hp
    cases eg : g l[i] (wipeE ρ vs) with
    | none => rw [eg] at hp; exact hp.elim
    | some ρ1 =>
      rw [eg] at hp
      have r2 : Rel (zX X F) F (wipeE ρ vs) S' β' (L2.wipe σ vs) H2 := ((r1.step a1 a2 a3).wipe vs).same sm
      have E2 : Ev β' H' β' H2 := .of sm
      refine ⟨wipeE ρ vs, S', β', l[i], r2, rx, ρ1, eg, fun σ2 r3 bt => ⟨?_, ?_⟩⟩
      · have z := bt vs hix
        rw [z]
        apply List.ext_getElem?
        intro j
        rw [wipe_get, wipe_get]
        by_cases hj : j ∈ vs
        · rw [if_pos hj, if_pos hj]
          cases σ[j]? <;> rfl
        · rw [if_neg hj]
      have hp : Post (zX X F) F W ρ σ β1 H1 (RO (zX X F)) (((t ρ1 S').nox).bind fun b S1 => if b = true then ((e ρ1 S1).nox).bind fun y S2 => if acc.length < lim then lcL g t e (wipeE ρ vs) (l.drop (i + 1)) (acc ++ [y]) S2 else .stuck else lcL g t e (wipeE ρ vs) (l.drop (i + 1)) acc S1) Q := hp
      refine ⟨ρ1, S', β', r3, ?_⟩
      cases et : t ρ1 S' with
      | exc x S2 => rw [et] at hp; exact hp.elim
      | stuck => rw [et] at hp; exact hp.elim
      | ok b S2 =>
        rw [et] at hp
        have hp : Post (zX X F) F W ρ σ β1 H1 (RO (zX X F)) (if b = true then ((e ρ1 S2).nox).bind fun y S2 => if acc.length < lim then lcL g t e (wipeE ρ vs) (l.drop (i + 1)) (acc ++ [y]) S2 else .stuck else lcL g t e (wipeE ρ vs) (l.drop (i + 1)) acc S2) Q := hp
        intro b' H3 β3 r4 E3 eb
        have eb : b' = b := eb
        subst eb
        have E13 : Ev β1 H1 β3 H3 := (a3.trans E2).trans E3
        have d3 : H3 Da = some (.lst ws) := E3.keep _ _ (sm _ _ a4) (.inr ⟨a6, rfl⟩)
        have w3 : Reps (zX X F) β3 H3 ws acc := (a5.mono E2).mono E3
        have n3 : Da ∉ β3 := E3.notin (sm _ _ a4) a6
        have g3 : G β3 H3 := st _ _ _ _ (st _ _ _ _ a7 E2) E3
        cases b' with
        | false => exact ⟨hlt, S2, β3, ws, acc, r4.sto, r4.tab, E13, d3, w3, n3, g3, hp⟩
        | true =>
          have hp : Post (zX X F) F W ρ σ β1 H1 (RO (zX X F)) (((e ρ1 S2).nox).bind fun y S2 => if acc.length < lim then lcL g t e (wipeE ρ vs) (l.drop (i + 1)) (acc ++ [y]) S2 else .stuck) Q := hp
          refine ⟨ρ1, S2, β3, r4, ?_⟩
          cases ee : e ρ1 S2 with
          | exc x S2 => rw [ee] at hp; exact hp.elim
          | stuck => rw [ee] at hp; exact hp.elim
          | ok y S3 =>
            rw [ee] at hp
            have hp : Post (zX X F) F W ρ σ β1 H1 (RO (zX X F)) (if acc.length < lim then lcL g t e (wipeE ρ vs) (l.drop (i + 1)) (acc ++ [y]) S3 else .stuck) Q := hp
            split at hp
            · rename_i hz
              intro v H4 β4 r5 E4 rv
              have d4 : H4 Da = some (.lst ws) := E4.keep _ _ d3 (.inr ⟨n3, rfl⟩)
              have w4 : Reps (zX X F) β4 H4 ws acc := w3.mono E4
              have n4 : Da ∉ β4 := E4.notin d3 n3
              have E14 : Ev β1 H1 β4 H4 := E13.trans E4
              refine ⟨ws, d4, by rw [w4.length]; exact Nat.lt_of_lt_of_le hz lim_le, hlt, S3, β4, ws ++ [v], acc ++ [y], ?_⟩
              -- the new list is the comprehension's own: nothing else leans on it
              have kT : ∀ {b : Addr} {ys : List V} {zs : List V}, SqT X.K H4 b ys → SqT X.K (upd H4 Da (.lst zs)) b ys := fun {b ys zs} q => by
                rcases q with (q | ⟨u, q⟩) | q
                · exact .inl (.inl (by rw [upd_ne (fun c => by rw [c, d4] at q; cases q)]; exact q))
                · exact .inl (.inr ⟨u, by rw [upd_ne (fun c => by rw [c, d4] at q; cases q)]; exact q⟩)
                · exact .inr q
              have S4 : Sv β4 H4 β4 (upd H4 Da (.lst (ws ++ [v]))) := sv_upd d4
              have E5 : Ev β1 H1 β4 (upd H4 Da (.lst (ws ++ [v]))) := ⟨E14.pre, E14.fresh, fun b u k c => by rw [upd_ne (fun z => by rw [z, nD] at k; cases k)]; exact E14.keep b u k c, fun b k => by
                by_cases hb : b = Da
                · rw [hb]; exact nD
                · rw [upd_ne hb] at k; exact E14.dom b k⟩
              have str : StR (zX X F) β4 S3 (upd H4 Da (.lst (ws ++ [v]))) := ⟨r5.sto.len, r5.sto.nd, fun n so q => by
                obtain ⟨b, h1, h2⟩ := r5.sto.at_ n so q
                have nba : b ≠ Da := fun c => n4 (c ▸ List.mem_of_getElem? h1)
                refine ⟨b, h1, ?_⟩
                cases so with
                | cell l => obtain ⟨vs', g1, g2⟩ := h2; exact ⟨vs', by rw [upd_ne nba]; exact g1, g2.monoS S4⟩
                | ins C fs =>
                  obtain ⟨Ca, dx, fvs, g1, g2, g3⟩ := h2
                  exact ⟨Ca, dx, fvs, g1, by rw [upd_ne nba]; exact g2, Paired.mapP g3 fun p q r => ⟨r.1, r.2.monoS S4⟩⟩⟩
              have tab : LamX.Tabs F.T (upd H4 Da (.lst (ws ++ [v]))) := fun p hp => by
                obtain ⟨ps, q1, q2, q3⟩ := r5.tab p hp
                refine ⟨ps, by rw [upd_ne (fun z => by rw [z, d4] at q1; cases q1)]; exact q1, q2, fun pos cv hc => ?_⟩
                obtain ⟨c, e1, e2⟩ := q3 pos cv hc
                exact ⟨c, e1, by rw [upd_ne (fun z => by rw [z, d4] at e2; unfold LamX.CodeO at e2; cases e2)]; exact e2⟩
              refine ⟨str, tab, E5, upd_same, (w4.append (.cons rv .nil)).monoS S4, n4, ?_, hp⟩
              exact st _ _ _ _ g0 E5
            · exact hp.elim
  · have e : i = l.length := by omega
    subst e
    rw [List.drop_length] at hp
    exact .inl ⟨I.stop _ β' H' a7 (Nat.le_refl _), hp (.ref Da) H' β' (r1.step a1 a2 a3) a3 ⟨Da, ws, rfl, nD, a4, a5, a6⟩⟩
abbrev rYes : Env → Sto → Res Bool := fun _ S => .ok true S
abbrev VTs (X : Cx) (F : Fr) (W : WX) (es : List Expr) (r : Env → Sto → Res Bool) : Prop := PTs X es (tG (zX X F) F W RT r)
theorem vts_nil : VTs X F W [] rYes := ⟨fun pins s σ H Q I q => pts_nil.run pins s σ H Q I (by
  obtain ⟨ρ, S, β, hr, hp⟩ := q
  exact tG_end hr hp (.refl _) rfl)⟩
theorem vts_one {c : Expr} {t : Env → Sto → Res Bool} (h : VT X F W c t) : VTs X F W [c] t := pts_one h
theorem ve_lc {ifs : List Expr} {scope : Scope} {own : List (Str × Nat)} {pos : Pos} {ri : Env → Sto → Res (List D)} {ix : List Nat} {g : D → Env → Option Env} {t : Env → Sto → Res Bool} {e : Env → Sto → Res D} (hc : X.calm = true) (hN : X.N.Nodup) (hi : VIe X F W tg it ri) (ok : BlkOk X.N X.env.scope scope own)
    (hg : InBlk X scope fun Y => VG Y F tg ix g) (ht : InBlk X scope fun Y => VTs Y F W0 ifs t) (he : InBlk X scope fun Y => VF Y F W0 elt e) (hix : ∀ i ∈ ix, i ∈ own.map (·.2)) (hs : ∀ x, foldedSetIterable it X.env x = pure x := by intro _; rfl) :
    VO X F W (.ListComp elt [⟨tg, it, ifs, 0⟩] scope pos) (rLc ri (own.map (·.2)) g t e) :=
  pe_imp (pe_lc hc hN hi ok hg ht he hs) fun σ H Q q => lc_read hix q
/-- name = [..] on one line, the name a local: as data -/
theorem vs_setLcF {i : Nat} {y : Str} {py spos : Pos} {ifs : List Expr} {scope : Scope} {own : List (Str × Nat)} {pos : Pos} {ri : Env → Sto → Res (List D)} {ix : List Nat} {g : D → Env → Option Env} {t : Env → Sto → Res Bool} {e : Env → Sto → Res D} (hc : X.calm = true) (hN : X.N.Nodup) (hy : X.N[i]? = some y) (hyl : X.env.scope.names.lookup y = some .local)
    (hsw : swapsWith (.ListComp elt [⟨tg, it, ifs, 0⟩] scope pos) (some (.Name y py)) spos.line X.env = pure true) (hi : VIe X F W tg it ri) (ok : BlkOk X.N X.env.scope scope own)
    (hg : InBlk X scope fun Y => VG Y F tg ix g) (ht : InBlk X scope fun Y => VTs Y F W0 ifs t) (he : InBlk X scope fun Y => VF Y F W0 elt e) (hix : ∀ i ∈ ix, i ∈ own.map (·.2)) (hs : ∀ x, foldedSetIterable it X.env x = pure x := by intro _; rfl) :
    VS1 X F W (.Assign [.Name y py] (.ListComp elt [⟨tg, it, ifs, 0⟩] scope pos) spos) (rSetO i (rLc ri (own.map (·.2)) g t e)) :=
  ps_imp (ps_setLc hc hN hy hyl hsw hi ok hg ht he hs) fun Dn σ H ⟨ρ, S, β, hr, hp⟩ =>
    lc_read hix (tG_then hr hp fun v H1 d S1 β1 r1 e1 c1 p1 => by
      unfold setE at p1
      split at p1
      · rename_i hl
        obtain ⟨a, vs, e0, n, ha, gg, nb⟩ := c1
        subst e0
        refine p1 _ H1 β1 (r1.setOwn ha gg nb (hr.ev.dom a n) hl fun j s _ q1 q2 q3 => ?_) (.refl _ _)
        obtain ⟨ys, z⟩ := hr.ownAt q1 q2 q3
        rw [n] at z
        cases z
      · exact p1.elim)
end
end VS

set_option maxHeartbeats 2000000
namespace VS
open PySem PySem.Spec PyProof.Rows L2

/-- o[i], o an object of the store that is a list -/
def ixO (S : Sto) : D → D → Option D
  | .obj n, .int i => match S[n]? with
    | some (.cell l) => atI l i
    | _ => none
  | _, _ => none
@[simp] def rIxO (ra rb : Env → Sto → Res D) : Env → Sto → Res D := fun ρ S => (ra ρ S).bind fun a S1 => (rb ρ S1).bind fun b S2 => optR (ixO S2 a b) S2
section
variable {X : Cx} {F : Fr} {W : WX} {a b : Expr} {es : List Expr} {pos : Pos} {ra rb : Env → Sto → Res D}
theorem ve_ixO (ha : VF X F W a ra) (hb : VF X F W b rb) (hs : PlainIx b := by exact fun _ _ => rfl) : VF X F W (.Subscript a b pos) (rIxO ra rb) := pe_imp (pe_ix ix_list ha hb hs) fun σ H Q q => by
  obtain ⟨ρ, S, β, hr, hp⟩ := q
  refine tG_bind anti_F hr hp fun x H1 d1 S1 β1 r1 e1 c1 p1 => ?_
  refine tG_bind anti_F r1 p1 fun y H2 d2 S2 β2 r2 e2 c2 p2 => ?_
  cases d1 with
  | obj n =>
    cases d2 with
    | int i =>
      cases c2
      cases c1.mono e2 with
      | obj hn =>
        rename_i a0
        have p2 : Post (zX X F) F W ρ σ β2 H2 (RF (zX X F)) (optR (match S2[n]? with | some (.cell l) => L2.atI l i | _ => none) S2) Q := p2
        split at p2
        · rename_i l e0
          obtain ⟨a1, h1, vs, h2, h3⟩ := r2.sto.at_ n _ e0
          rw [hn] at h1
          cases h1
          cases e3 : L2.atI l i with
          | none => rw [e3] at p2; exact p2.elim
          | some d =>
            rw [e3] at p2
            obtain ⟨v, e4, rv⟩ := h3.atI e3
            exact ⟨a0, vs, i, v, rfl, rfl, .of h2, e4, tG_end r2 p2 (.refl _) rv⟩
        · exact p2.elim
    | _ => exact p2.elim
  | _ => exact p2.elim
theorem StR.push {Z : Wd} {β : List Addr} {S : Sto} {H : Hp} {p : Addr} {vs : List V} {l : List D} (h : StR Z β S H) (np : H p = none) (r : Reps Z β H vs l) : StR Z (β ++ [p]) (S ++ [.cell l]) (upd H p (.lst vs)) ∧ Ev β H (β ++ [p]) (upd H p (.lst vs)) := by
  have nb := h.notin np
  have e : Ev β H (β ++ [p]) (upd H p (.lst vs)) := by
    refine ⟨fun n a q => ?_, fun a m n => ?_, fun a o k c => ?_, fun a k => ?_⟩
    · rw [List.getElem?_append_left (List.getElem?_eq_some_iff.mp q).1]; exact q
    · rcases List.mem_append.mp m with m | m
      · exact absurd m n
      · have : a = p := by simpa using m
        rw [this]; exact np
    · rw [upd_ne (ne_of_none k np)]; exact k
    · by_cases hb : a = p
      · rw [hb, upd_same] at k; cases k
      · rw [upd_ne hb] at k; exact k
  refine ⟨⟨by simp [h.len], ?_, fun n so q => ?_⟩, e⟩
  · rw [List.nodup_append]
    refine ⟨h.nd, by simp, fun x hx y hy => ?_⟩
    have : y = p := by simpa using hy
    rw [this]
    intro z
    rw [z] at hx
    exact nb hx
  · by_cases hn : n < S.length
    · rw [List.getElem?_append_left hn] at q
      obtain ⟨a, h1, h2⟩ := h.at_ n so q
      refine ⟨a, e.pre _ _ h1, ?_⟩
      cases so with
      | cell l => obtain ⟨ws, g1, g2⟩ := h2; exact ⟨ws, by rw [upd_ne (ne_of_none g1 np)]; exact g1, g2.mono e⟩
      | ins C fs => obtain ⟨Ca, dx, fvs, g1, g2, g3⟩ := h2; exact ⟨Ca, dx, fvs, g1, by rw [upd_ne (ne_of_none g2 np)]; exact g2, g3.mono e⟩
    · have hn2 : n = S.length := by
        have := (List.getElem?_eq_some_iff.mp q).1
        simp at this
        omega
      subst hn2
      rw [List.getElem?_append_right (Nat.le_refl _)] at q
      simp at q
      subst q
      refine ⟨p, by rw [← h.len]; simp, vs, upd_same, r.mono e⟩
/-- a written list that keeps its identity -/
@[simp] def rCell (r : Env → Sto → Res (List D)) : Env → Sto → Res D := fun ρ S => (r ρ S).bind fun xs S1 => if xs.length ≤ lim then .ok (.obj S1.length) (S1 ++ [.cell xs]) else .stuck
theorem ve_cell {r : Env → Sto → Res (List D)} (h : VA X F W es r) : VF X F W (.List es pos) (rCell r) := pe_imp (pe_lst h) fun σ H Q q => by
  obtain ⟨ρ, S, β, hr, hp⟩ := q
  refine tG_bind anti_F hr hp fun x H1 d1 S1 β1 r1 e1 c1 p1 => ?_
  split at p1
  · rename_i z
    refine ⟨by rw [Reps.length c1]; exact Nat.le_trans z lim_le, fun p np => ?_⟩
    obtain ⟨h1, h2⟩ := r1.sto.push np c1
    refine p1 _ _ _ (r1.step h1 (r1.tab.ext (Same.new np)) h2) h2 (.obj ?_)
    rw [← r1.sto.len]
    simp
  · exact p1.elim
theorem StR.put {Z : Wd} {β : List Addr} {S : Sto} {H : Hp} {n : Nat} {a : Addr} {vs ws : List V} {l m : List D} (h : StR Z β S H) (hs : S[n]? = some (.cell l)) (hn : β[n]? = some a) (ha : H a = some (.lst vs)) (r : Reps Z β H ws m) : StR Z β (S.set n (.cell m)) (upd H a (.lst ws)) := by
  have sv : Sv β H β (upd H a (.lst ws)) := sv_upd ha
  have hl : n < S.length := (List.getElem?_eq_some_iff.mp hs).1
  refine ⟨by rw [List.length_set]; exact h.len, h.nd, fun k so q => ?_⟩
  by_cases hk : n = k
  · subst hk
    rw [List.getElem?_set_self hl] at q
    cases q
    exact ⟨a, hn, ws, upd_same, r.monoS sv⟩
  · rw [List.getElem?_set_ne hk] at q
    obtain ⟨b, h1, h2⟩ := h.at_ k so q
    have nab : b ≠ a := fun z => by
      rw [z] at h1
      obtain ⟨i1, e1⟩ := List.getElem?_eq_some_iff.mp h1
      obtain ⟨i2, e2⟩ := List.getElem?_eq_some_iff.mp hn
      exact hk ((List.getElem_inj h.nd).mp (e2.trans e1.symm))
    refine ⟨b, h1, ?_⟩
    cases so with
    | cell l => obtain ⟨us, g1, g2⟩ := h2; exact ⟨us, by rw [upd_ne nab]; exact g1, g2.monoS sv⟩
    | ins C fs => obtain ⟨Ca, dx, fvs, g1, g2, g3⟩ := h2; exact ⟨Ca, dx, fvs, g1, by rw [upd_ne nab]; exact g2, Paired.mapP g3 fun p q r => ⟨r.1, r.2.monoS sv⟩⟩
theorem ev_put {β : List Addr} {H : Hp} {a : Addr} {vs ws : List V} (ha : H a = some (.lst vs)) (hb : a ∈ β) : Ev β H β (upd H a (.lst ws)) := ⟨fun _ _ h => h, fun _ m n => absurd m n, fun b o h c => by
  rw [upd_ne (fun z => ?_)]
  · exact h
  · subst z
    rw [ha] at h
    cases h
    rcases c with c | ⟨c, _⟩
    · cases c
    · exact c hb, fun b h => by
  by_cases hb : b = a
  · rw [hb, upd_same] at h; cases h
  · rw [upd_ne hb] at h; exact h⟩
/-- o[k] = e, o a list of the store -/
def setO (S : Sto) (d : D) : D → D → Option Sto
  | .obj n, .int k => match S[n]? with
    | some (.cell l) => (ixN l.length k).map fun j => S.set n (.cell (l.set j d))
    | _ => none
  | _, _ => none
@[simp] def rSetObj (ro rk r : Env → Sto → Res D) : RS := fun ρ S => (r ρ S).thenS fun d S1 => (ro ρ S1).thenS fun o S2 => (rk ρ S2).thenS fun k S3 => match setO S3 d o k with
  | some S4 => .nx ρ S4
  | none => .stuck
theorem vs_setObj {o k e : Expr} {ps : Pos} {r ro rk : Env → Sto → Res D} (ho : VF X F W o ro) (hk : VF X F W k rk) (h : VF X F W e r)
    (ha : ∀ v, assign (.Subscript o k ps) X.env v = (do
      let ov ← holding [v] (eval o X.env)
      let iv ← holding [v, ov] (eval k X.env)
      standAt ps
      holding [v, ov, iv] (setItem ov iv v)
      release [v, ov, iv] []) := by intro _; rfl)
    (hs : swapsWithSole [.Subscript o k ps] e pos.line X.env = pure false := by rfl) (hw : swappedStores [.Subscript o k ps] e X.env = pure none := by rfl) (h1 : (assignEach [.Subscript o k ps] X.env).map (·.2) = [assign (.Subscript o k ps) X.env] := by rfl) :
    VS1 X F W (.Assign [.Subscript o k ps] e pos) (rSetObj ro rk r) :=
  ps_imp (ps_asg h (pg_sub ho hk set_list ha) hs hw h1) fun Dn σ H ⟨ρ, S, β, hr, hp⟩ => by
    refine tG_then hr hp fun v H1 d S1 β1 r1 ev1 c1 p1 => ?_
    refine tG_then r1 p1 fun ov H2 od S2 β2 r2 ev2 c2 p2 => ?_
    refine tG_then r2 p2 fun kv H3 kd S3 β3 r3 ev3 c3 p3 => ?_
    cases od with
    | obj n =>
      cases kd with
      | int k =>
        cases c3
        cases c2.mono ev3 with
        | obj hn =>
          rename_i a0
          have p3 : PostS X F W β3 H3 (match (match S3[n]? with | some (.cell l) => (ixN l.length k).map fun j => S3.set n (.cell (l.set j d)) | _ => none) with | some S4 => .nx ρ S4 | none => .stuck) Dn := p3
          cases es : S3[n]? with
          | none => rw [es] at p3; exact p3.elim
          | some so =>
            cases so with
            | ins C fs => rw [es] at p3; exact p3.elim
            | cell l =>
              rw [es] at p3
              have p3 : PostS X F W β3 H3 (match (ixN l.length k).map fun j => S3.set n (.cell (l.set j d)) with | some S4 => .nx ρ S4 | none => .stuck) Dn := p3
              obtain ⟨a1, h1, vs, h2, h3⟩ := r3.sto.at_ n _ es
              rw [hn] at h1
              cases h1
              cases ej : ixN l.length k with
              | none => rw [ej] at p3; exact p3.elim
              | some j =>
                rw [ej] at p3
                refine ⟨a0, vs, k, j, rfl, rfl, h2, by rw [h3.length]; exact ej, ?_⟩
                have mb : a0 ∈ β3 := List.mem_of_getElem? hn
                have e4 : Ev β3 H3 β3 (upd H3 a0 (.lst (vs.set j v))) := ev_put h2 mb
                have tb : LamX.Tabs F.T (upd H3 a0 (.lst (vs.set j v))) := fun p hp => by
                  obtain ⟨ps, q1, q2, q3⟩ := r3.tab p hp
                  refine ⟨ps, by rw [upd_ne (fun z => by rw [z, h2] at q1; cases q1)]; exact q1, q2, fun pos cv hc => ?_⟩
                  obtain ⟨c, e1, e2⟩ := q3 pos cv hc
                  exact ⟨c, e1, by rw [upd_ne (fun z => by rw [z, h2] at e2; unfold LamX.CodeO at e2; cases e2)]; exact e2⟩
                exact p3 σ _ β3 (r3.step (r3.sto.put es hn h2 (h3.set ((c1.mono ev2).mono ev3) j)) tb e4) e4.sv
      | _ => exact p3.elim
    | _ => exact p3.elim
end

@[simp] def rRaise (x : Str) : RS := fun _ S => .exc ⟨x, none⟩ S
structure ExcG (K : PySem.W.Frag) (mg : Str → Option Value) (x : Str) (C : Addr) : Prop where
  gP : mg x = some (.ref C)
  xP : PySem.W.excIn K C [.type "ValueError", .type "Exception", .type "BaseException", .type "object"] "ValueError.__new__" = true
  kP : PySem.W.keepIn K (.ref C) = true
  bP : PySem.W.subIn K (.ref C) (.type "BaseException") = some true
  tP : PySem.W.typeIn K (.ref C) = some (.type "type")
section
variable {X : Cx} {F : Fr} {W : WX} {x m : Str} {C : Addr}
theorem vs_raise {j : Nat} {p p2 pos pos2 : Pos} (G : ExcG X.K X.mg x C) (hc : X.calm = true) (tk : L2N.Takes X W) (hg : Gl X x := by rfl) (hdb : (x == ("__debug__" : Str)) = false := by decide) : VS1 X F W (.Raise (some (.Call (.Name x p) [.Constant (.str m) j p2] [] pos)) none pos2) (rRaise x) :=
  ps_imp (L2N.ps_raise hc tk (L2N.pmk_own PySem.F.excBase_ValueError G.xP G.gP G.kP (raises_own G.bP G.tP) hg hdb)) fun Dn σ H ⟨ρ, S, β, hr, hp⟩ =>
    hp (.ref C) none σ H β hr.sto hr.tab hr.ev ⟨C, G.gP, rfl, rfl⟩
end
end VS

set_option maxHeartbeats 2000000
namespace VS
open PySem PySem.Spec PyProof.Rows L2

def fzAt (i : Nat) (ρ : Env) : Env := match ρ[i]? with
  | some (.ol l) => ρ.set i (.val (.lst l))
  | _ => ρ
def Fl.fz (i : Nat) : Fl → Fl
  | .nx ρ S => .nx (fzAt i ρ) S
  | .bk ρ S => .bk (fzAt i ρ) S
  | .ct ρ S => .ct (fzAt i ρ) S
  | f => f
@[simp] def rFzS (i : Nat) (r : RS) : RS := fun ρ S => (r ρ S).fz i
section
variable {X : Cx} {F : Fr} {W : WX}
theorem Rel.un {ρ : Env} {S : Sto} {β : List Addr} {σ : L2.St} {H : Hp} (h : Rel (zX X F) F ρ S β σ H) (i : Nat) : Rel (zX X F) F (ρ.set i .un) S β σ H := by
  have fix : ∀ (m : Nat) (s : Sl), (ρ.set i .un)[m]? = some s → s = .un ∨ (i ≠ m ∧ ρ[m]? = some s) := fun m s q => by
    by_cases hj : i = m
    · subst hj
      have hl : i < ρ.length := by
        have := (List.getElem?_eq_some_iff.mp q).1
        simpa using this
      rw [List.getElem?_set_self hl] at q
      cases q
      exact .inl rfl
    · rw [List.getElem?_set_ne hj] at q
      exact .inr ⟨hj, q⟩
  refine ⟨h.sto, h.ev, h.tab, by rw [List.length_set, h.len], fun j sl q => ?_, fun j k s t a ne q1 q2 o1 o2 v1 v2 => ?_⟩
  · rcases fix j sl q with e | ⟨n, e⟩
    · subst e; trivial
    · exact h.slot j sl e
  · rcases fix j s q1 with e | ⟨n1, e1⟩
    · subst e; cases o1
    · rcases fix k t q2 with e | ⟨n2, e2⟩
      · subst e; cases o2
      · exact h.own j k s t a ne e1 e2 o1 o2 v1 v2
theorem Rel.toVal {ρ : Env} {S : Sto} {β : List Addr} {σ : L2.St} {H : Hp} {i : Nat} {v : V} {d : D} (h : Rel (zX X F) F ρ S β σ H) (e : σ[i]? = some (some v)) (r : Rep (zX X F) β H v d) : Rel (zX X F) F (ρ.set i (.val d)) S β σ H := by
  have hi : i < ρ.length := by rw [h.len]; exact (List.getElem?_eq_some_iff.mp e).1
  have fix : ∀ (m : Nat) (s : Sl), (ρ.set i (.val d))[m]? = some s → (i = m ∧ s = .val d) ∨ (i ≠ m ∧ ρ[m]? = some s) := fun m s q => by
    by_cases hj : i = m
    · subst hj
      rw [List.getElem?_set_self hi] at q
      cases q
      exact .inl ⟨rfl, rfl⟩
    · rw [List.getElem?_set_ne hj] at q
      exact .inr ⟨hj, q⟩
  refine ⟨h.sto, h.ev, h.tab, by rw [List.length_set, h.len], fun j sl q => ?_, fun j k s t a ne q1 q2 o1 o2 v1 v2 => ?_⟩
  · rcases fix j sl q with ⟨n, z⟩ | ⟨n, z⟩
    · subst n z; exact ⟨v, e, r⟩
    · exact h.slot j sl z
  · rcases fix j s q1 with ⟨_, z⟩ | ⟨n1, e1⟩
    · subst z; cases o1
    · rcases fix k t q2 with ⟨_, z⟩ | ⟨n2, e2⟩
      · subst z; cases o2
      · exact h.own j k s t a ne e1 e2 o1 o2 v1 v2
theorem Reps.upd_frz {Z : Wd} {β : List Addr} {H : Hp} {x : Addr} {vs : List V} {o : Obj} (h3 : H x = some (.lst vs)) {ws : List V} {m : List D} : Reps Z β H ws m → Reps Z β (upd H x (.frz o (.lst vs))) ws m := by
  have kT : ∀ {b : Addr} {ys : List V}, SqT Z.K H b ys → SqT Z.K (upd H x (.frz o (.lst vs))) b ys := fun {b ys} q => by
    rcases q with (q | ⟨u, q⟩) | q
    · exact .inl (.inl (by rw [upd_ne (fun c => by rw [c, h3] at q; cases q)]; exact q))
    · exact .inl (.inr ⟨u, by rw [upd_ne (fun c => by rw [c, h3] at q; cases q)]; exact q⟩)
    · exact .inr q
  have kL : ∀ {b : Addr} {ys : List V}, ImL Z.K H b ys → ImL Z.K (upd H x (.frz o (.lst vs))) b ys := fun {b ys} q => by
    rcases q with ⟨u, q⟩ | q
    · exact .inl ⟨u, by rw [upd_ne (fun c => by rw [c, h3] at q; cases q)]; exact q⟩
    · exact .inr q
  exact Reps.rec (motive_1 := fun v d _ => Rep Z β (upd H x (.frz o (.lst vs))) v d) (motive_2 := fun vs' l _ => Reps Z β (upd H x (.frz o (.lst vs))) vs' l)
    .non .bl .int .str (fun q _ r => .tup (kT q) r) (fun q _ r => .lst (kL q) r) .obj .fn .adr .nil (fun _ _ r t => .cons r t)
theorem Rel.fzAt {ρ : Env} {S : Sto} {β : List Addr} {σ : L2.St} {H : Hp} {i : Nat} {l : List D} (h : Rel (zX X F) F ρ S β σ H) (e : ρ[i]? = some (.ol l)) : ∃ a vs, H a = some (.lst vs) ∧ ∀ o, Rel (zX X F) F (VS.fzAt i ρ) S β σ (upd H a (.frz o (.lst vs))) ∧ Sv β H β (upd H a (.frz o (.lst vs))) := by
  obtain ⟨a, vs, e1, h1, h2, h3, h4⟩ := h.slot i _ e
  refine ⟨a, vs, h1, fun o => ⟨?_, fun b u k c => ?_, fun _ _ q => q⟩⟩
  · have hi : i < ρ.length := (List.getElem?_eq_some_iff.mp e).1
    have r1 : Rel (zX X F) F (ρ.set i .un) S β σ (upd H a (.frz o (.lst vs))) := (h.un i).frz h1 h3 h4 fun j s q1 q2 q3 => by
      by_cases hj : i = j
      · subst hj
        rw [List.getElem?_set_self hi] at q1
        cases q1
        cases q2
      · rw [List.getElem?_set_ne hj] at q1
        exact h.own i j _ s a hj e q1 rfl q2 e1 q3
    have r2 := r1.toVal e1 (.lst (.inl ⟨o, upd_same⟩) (h2.upd_frz h1))
    rw [List.set_set] at r2
    unfold VS.fzAt
    rw [e]
    exact r2
  · rw [upd_ne (fun z => by rw [z, h1] at k; cases k; cases c)]
    exact k
theorem vs_fz {st : Stmt} {r : RS} (i : Nat) (h : VS1 X F W st r) : VS1 X F W st (rFzS i r) := by
  refine ⟨fun pins s σ H Dn I q => ?_⟩
  obtain ⟨ρ, S, β, hr, hp⟩ := q
  let up : (L2.St → Hp → Prop) → L2.St → Hp → Prop := fun k σ' H' => k σ' H' ∨ ∃ a vs, H' a = some (.lst vs) ∧ ∀ o, k σ' (upd H' a (.frz o (.lst vs)))
  have base : ∀ {ρ' : Env} {S' : Sto} {k : L2.St → Hp → Prop}, (∀ σ' H' β', Rel (zX X F) F (VS.fzAt i ρ') S' β' σ' H' → Sv β H β' H' → k σ' H') → ∀ σ' H' β', Rel (zX X F) F ρ' S' β' σ' H' → Sv β H β' H' → up k σ' H' := by
    intro ρ' S' k hk σ' H' β' r sv
    cases e : ρ'[i]? with
    | none => exact .inl (hk σ' H' β' (by unfold VS.fzAt; rw [e]; exact r) sv)
    | some sl =>
      cases sl with
      | ol l =>
        obtain ⟨a, vs, ha, hf⟩ := r.fzAt e
        exact .inr ⟨a, vs, ha, fun o => hk _ _ β' (hf o).1 (sv.trans (hf o).2)⟩
      | _ => exact .inl (hk σ' H' β' (by unfold VS.fzAt; rw [e]; exact r) sv)
  have fin : ∀ {k : L2.St → Hp → Prop} {s' : Shared}, (∃ σ' H', Inv X pins σ' H' s' ∧ up k σ' H') → ∃ σ' H', Inv X pins σ' H' s' ∧ k σ' H' := by
    rintro k s' ⟨σ', H', I', (q | ⟨a, vs, ha, hf⟩)⟩
    · exact ⟨σ', H', I', q⟩
    · obtain ⟨o, I2⟩ := inv_freeze I' ha
      exact ⟨σ', _, I2, hf o⟩
  refine thn (h.run pins s σ H { nx := up Dn.nx, rt := Dn.rt, bk := up Dn.bk, ct := up Dn.ct } I ⟨ρ, S, β, hr, ?_⟩) fun f s' hq => ?_
  · have hp : PostS X F W β H ((r ρ S).fz i) Dn := hp
    cases e : r ρ S with
    | nx ρ' S' => rw [e] at hp; exact base hp
    | bk ρ' S' => rw [e] at hp; exact base hp
    | ct ρ' S' => rw [e] at hp; exact base hp
    | rt d S' => rw [e] at hp; exact hp
    | exc x S' => rw [e] at hp; exact hp
    | stuck => rw [e] at hp; exact hp
  · cases f with
    | next => exact fin hq
    | brk => exact fin hq
    | cont => exact fin hq
    | ret u => exact hq
end
end VS

set_option maxHeartbeats 2000000
namespace VS
open PySem PySem.Spec PyProof.Rows L2

abbrev RQ (Z : Wd) : RR V D := fun H β' H' v d => Rep Z β' H' v d ∨ ∃ l, d = .lst l ∧ ∃ a vs, v = .ref a ∧ H a = none ∧ H' a = some (.lst vs) ∧ Reps Z β' H' vs l ∧ a ∉ β'
theorem anti_Q {Z : Wd} : Anti (RQ Z) := fun _ _ _ _ _ _ _ _ e h => by
  rcases h with h | ⟨l, e1, a, vs, h1, h2, h3⟩
  · exact .inl h
  · exact .inr ⟨l, e1, a, vs, h1, e.dom a h2, h3⟩
abbrev VQ (X : Cx) (F : Fr) (W : WX) (e : Expr) (r : Env → Sto → Res D) : Prop := PE X e (tG (zX X F) F W (RQ (zX X F)) r)
section
variable {X : Cx} {F : Fr} {W : WX} {e : Expr}
theorem vf_of_vq {r : Env → Sto → Res D} (h : VQ X F W e r) : VF X F W e r := by
  refine ⟨fun pins s σ H Q I q => ?_⟩
  obtain ⟨ρ, S, β, hr, hp⟩ := q
  refine thn (h.run pins s σ H (fun v H' => Q v H' ∨ ∃ a xs, v = .ref a ∧ H' a = some (.lst xs) ∧ ∀ o, Q v (upd H' a (.frz o (.lst xs)))) I ?_) fun v s1 ⟨x, H1, I1, r1, q1⟩ => ?_
  · refine ⟨ρ, S, β, hr, ?_⟩
    cases e : r ρ S with
    | ok d S' =>
      rw [e] at hp
      intro v H' β' a b c
      rcases c with c | ⟨l, e1, x, vs, h1, h2, h3, h4, h5⟩
      · exact .inl (hp v H' β' a b c)
      · subst e1 h1
        refine .inr ⟨x, vs, rfl, h3, fun o => ?_⟩
        have n0 : F.H0 x = none := hr.ev.dom x h2
        have rel2 := a.frz (o := o) h3 h5 n0 fun i s e1 e2 e3 => by
          obtain ⟨ys, z⟩ := hr.ownAt e1 e2 e3
          rw [h2] at z; cases z
        have ev2 : Ev β H β' (upd H' x (.frz o (.lst vs))) := ⟨b.pre, b.fresh, fun y u k c => by rw [upd_ne (fun z => by rw [z, h2] at k; cases k)]; exact b.keep y u k c, fun y k => by
          by_cases hy : y = x
          · rw [hy, upd_same] at k; cases k
          · rw [upd_ne hy] at k; exact b.dom y k⟩
        exact hp _ _ β' rel2 ev2 (.lst (.inl ⟨o, upd_same⟩) (h4.upd_frz h3))
    | exc x S' => rw [e] at hp; exact hp
    | stuck => rw [e] at hp; exact hp
  · rcases q1 with q1 | ⟨a, xs, e1, e2, q1⟩
    · exact ⟨x, H1, I1, r1, q1⟩
    · obtain ⟨o, I2⟩ := inv_freeze I1 e2
      exact ⟨x, _, I2, r1, q1 o⟩
/-- binary with new lists -/
def VOpQ {α γ δ : Type} (X : Cx) (F : Fr) (f : Value → Value → Sem Value) (R1 : RR V α) (R2 : RR V γ) (R3 : RR V δ) (g : α → γ → Option δ) : Prop :=
  ∃ rV : L2.R2, OpR X f rV ∧ ∀ (x y : V) (a : α) (b : γ) (c : δ) (β : List Addr) (H : Hp) (Q : VK), (∃ S, StR (zX X F) β S H) → R1 H β H x a → R2 H β H y b → g a b = some c → (∀ z H', Same H H' → R3 H β H' z c → Q z H') → rV x y H Q
theorem VOp.q {α γ δ : Type} {f : Value → Value → Sem Value} {R1 : RR V α} {R2 : RR V γ} {R3 : RR V δ} {g : α → γ → Option δ} (h : VOp X F f R1 R2 R3 g) : VOpQ X F f R1 R2 R3 g := by
  obtain ⟨rV, h1, h2⟩ := h
  exact ⟨rV, h1, fun x y a b c β H Q _ => h2 x y a b c β H Q⟩
section
variable {α γ δ : Type} {R1 : RR V α} {R2 : RR V γ} {R3 : RR V δ} {g : α → γ → Option δ} {ra : Env → Sto → Res α} {rb : Env → Sto → Res γ}
theorem bin_readQ {rV : L2.R2} (m1 : Mon R1) (m2 : Mon R2) (an : Anti R3)
    (hv : ∀ (x y : V) (a : α) (b : γ) (c : δ) (β : List Addr) (H : Hp) (Q : VK), (∃ S, StR (zX X F) β S H) → R1 H β H x a → R2 H β H y b → g a b = some c → (∀ z H', Same H H' → R3 H β H' z c → Q z H') → rV x y H Q)
    {σ : L2.St} {H : Hp} {Q : VK} (q : tG (zX X F) F W R3 (rBin g ra rb) σ H Q) : tOp rV (tG (zX X F) F W R1 ra) (tG (zX X F) F W R2 rb) σ H Q := by
  obtain ⟨ρ, S, β, hr, hp⟩ := q
  refine tG_bind an hr hp fun x H1 a S1 β1 r1 e1 c1 p1 => ?_
  refine tG_bind an r1 p1 fun y H2 b S2 β2 r2 e2 c2 p2 => ?_
  cases e : g a b with
  | none => rw [e] at p2; exact p2.elim
  | some c =>
    rw [e] at p2
    refine hv x y a b c β2 H2 Q ⟨_, r2.sto⟩ (m1 _ _ _ _ _ _ _ _ c1 e2) (m2 _ _ _ _ _ _ _ _ c2 (.refl _ _)) e fun z H' es r => ?_
    exact p2 z H' β2 (r2.same es) (.of es) r
theorem ve_binQ {op : Operator} {a b : Expr} {pos : Pos} (ho : VOpQ X F (binaryOp op) R1 R2 R3 g) (m1 : Mon R1) (m2 : Mon R2) (an : Anti R3) (ha : PE X a (tG (zX X F) F W R1 ra)) (hb : PE X b (tG (zX X F) F W R2 rb)) :
    PE X (.BinOp a op b pos) (tG (zX X F) F W R3 (rBin g ra rb)) := by
  obtain ⟨rV, h1, h2⟩ := ho
  exact pe_imp (pe_op h1 ha hb) fun σ H Q q => bin_readQ m1 m2 an h2 q
end

def rCatF (K : PySem.W.Frag) : L2.R2 := fun x y H Q => ∃ l b xs zs, x = .ref l ∧ y = .ref b ∧ RdK K H l xs ∧ RdK K H b zs ∧ xs.length + zs.length ≤ sizeLine ∧ ∀ p, H p = none → Q (.ref p) (upd H p (.lst (xs ++ zs)))
theorem op_catF : OpR X (binaryOp .Add) (rCatF X.K) := by
  intro pins s σ H x y v u Q I rx ry h
  obtain ⟨l, b, xs, zs, rfl, rfl, hH, hB, hz, q⟩ := h
  cases rx
  cases ry
  obtain ⟨z, its, n, r, e⟩ := hH.isl I
  obtain ⟨z2, its2, n2, r2, e2⟩ := hB.isl I
  have hl := r.length
  have hl2 := r2.length
  refine PySem.P.add_list e e2 ?_ (by rw [List.size_toArray, List.size_toArray]; omega)
  have ea : its.toArray ++ its2.toArray = (its ++ its2).toArray := by simp
  rw [ea]
  exact ⟨.ref _, _, I.lnew (t' := s.toks) (r.append r2) (by rw [List.length_append]; omega), rfl, q _ I.fresh⟩
theorem LsR.rd {Z : Wd} {β : List Addr} {H : Hp} {v : V} {l : List D} (h : LsR Z β H v l) : ∃ a vs, v = .ref a ∧ Reps Z β H vs l ∧ RdK Z.K H a vs := by
  obtain ⟨a, vs, e, r, h⟩ := h
  refine ⟨a, vs, e, r, ?_⟩
  rcases h with ⟨h, n⟩ | h
  · exact .inl (.of h)
  · exact h.rd
/-- a + b: ints, texts, tuples, lists -/
def addQ : D → D → Option D
  | .lst l, .lst m => if l.length + m.length ≤ lim then some (.lst (l ++ m)) else none
  | a, b => addD a b
theorem addQ_of {a b : D} (h : ∀ l m, ¬ (a = .lst l ∧ b = .lst m)) : addQ a b = addD a b := by
  cases a <;> cases b <;> first | rfl | exact absurd ⟨rfl, rfl⟩ (h _ _)
theorem vop_addQ : VOpQ X F (binaryOp .Add) (RX (zX X F)) (RX (zX X F)) (RQ (zX X F)) addQ := by
  obtain ⟨rV, h1, h2⟩ := vop_add (X := X) (F := F)
  refine ⟨_, h1.or op_catF, fun x y a b c β H Q st r1 r2 e q => ?_⟩
  obtain ⟨S, st⟩ := st
  by_cases hl : ∃ l m, a = .lst l ∧ b = .lst m
  · obtain ⟨l, m, rfl, rfl⟩ := hl
    have e : (if l.length + m.length ≤ lim then some (D.lst (l ++ m)) else none) = some c := e
    split at e
    · rename_i hz
      cases e
      obtain ⟨p1, vs, rfl, g1, d1⟩ := r1.ls.rd
      obtain ⟨p2, ws, rfl, g2, d2⟩ := r2.ls.rd
      refine .inr ⟨p1, p2, vs, ws, rfl, rfl, d1, d2, by rw [g1.length, g2.length]; exact Nat.le_trans hz lim_le, fun p np => ?_⟩
      exact q _ _ (.new np) (.inr ⟨_, rfl, p, _, rfl, np, upd_same, (g1.append g2).mono (.of (.new np)), st.notin np⟩)
    · cases e
  · rw [addQ_of fun l m z => hl ⟨l, m, z⟩] at e
    have na : ∀ l, a ≠ .lst l := fun l z => by
      subst z
      cases b with
      | lst m => exact hl ⟨l, m, rfl, rfl⟩
      | _ => cases e
    have nb : ∀ l, b ≠ .lst l := fun l z => by
      subst z
      cases a with
      | lst m => exact hl ⟨m, l, rfl, rfl⟩
      | _ => cases e
    exact .inl (h2 x y a b c β H Q (r1.rep na) (r2.rep nb) e fun z H' s r => q z H' s (.inl r))
/-- list + list, to be owned -/
theorem vop_catL : VOpQ X F (binaryOp .Add) (RX (zX X F)) (RX (zX X F)) (RO (zX X F)) VS.catL := by
  refine ⟨_, op_catF, fun x y a b c β H Q st r1 r2 e q => ?_⟩
  obtain ⟨S, st⟩ := st
  cases a with
  | lst l =>
    cases b with
    | lst m =>
      have e : (if l.length + m.length ≤ lim then some (l ++ m) else none) = some c := e
      split at e
      · rename_i hz
        cases e
        obtain ⟨p1, vs, rfl, g1, d1⟩ := r1.ls.rd
        obtain ⟨p2, ws, rfl, g2, d2⟩ := r2.ls.rd
        refine ⟨p1, p2, vs, ws, rfl, rfl, d1, d2, by rw [g1.length, g2.length]; exact Nat.le_trans hz lim_le, fun p np => ?_⟩
        exact q _ _ (.new np) ⟨p, _, rfl, np, upd_same, (g1.append g2).mono (.of (.new np)), st.notin np⟩
      · cases e
    | _ => cases e
  | _ => cases e

def rRepF (K : PySem.W.Frag) : L2.R2 := fun x y H Q => ∃ l k xs, x = .ref l ∧ y = .int k ∧ RdK K H l xs ∧ -(2 ^ 63) ≤ k ∧ k < 2 ^ 63 ∧ xs.length * k.toNat ≤ sizeLine ∧
  ∀ p, H p = none → Q (.ref p) (upd H p (.lst (List.replicate k.toNat xs).flatten))
theorem op_repF : OpR X (binaryOp .Mult) (rRepF X.K) := by
  intro pins s σ H x y v u Q I rx ry h
  obtain ⟨l, k, xs, rfl, rfl, hH, h1, h2, hz, q⟩ := h
  cases rx
  obtain ⟨t, rfl⟩ := ry
  obtain ⟨z, its, n, r, e⟩ := hH.isl I
  have hl := r.length
  have hlen : its.toArray.size * k.toNat ≤ sizeLine := by rw [List.size_toArray, ← hl]; exact hz
  have hcap : ¬ its.toArray.size * k.toNat > (2 ^ 63 - 1) / 8 := by
    have : (sizeLine : Nat) ≤ (2 ^ 63 - 1) / 8 := by decide
    omega
  have hfit : ¬ (!Builtin.List.listFitsIndex k) = true := by
    rw [fitsIndex_both h1 h2]
    exact Bool.false_ne_true
  have hlong : ¬ Builtin.List.listTooLong (its.toArray.size * k.toNat) = true := by
    rw [notLongL hlen]
    exact Bool.false_ne_true
  have hnew : List.foldl (fun x1 x2 => x1 ++ x2) #[] (List.replicate (if its.toArray.isEmpty = true then 0 else k.toNat) its.toArray) = (List.replicate k.toNat its).flatten.toArray := by
    have f0 : ∀ m : Nat, List.foldl (fun x1 x2 => x1 ++ x2) #[] (List.replicate m its.toArray) = (List.replicate m its).flatten.toArray := fun m => by
      have := foldl_rep its m []
      rw [List.nil_append] at this
      exact this
    rw [f0]
    cases its with
    | nil => simp
    | cons a r' => rw [if_neg (by simp)]
  refine wpAny_binaryOp_repeat_ref (T := "list") (U := "int") (by decide) ⟨_, e, rfl⟩ (fun s' => typeIs_int s' k t) noFill_list_mul PySem.F.fills_int_mul PySem.F.slot_int_rmul repeat_list PySem.F.slot_int_index.lookup
    (call_meets PySem.F.slot_int_rmul (typeIs_int s k t) PySem.F.entry_int_rmul (PySem.F.args_int_rmul_2 _ _) (int___rmul___int_list k t l its.toArray n)
      ⟨e, rfl, ⟨_, e, rfl⟩, call_meets PySem.F.slot_list_mul ⟨_, e, rfl⟩ PySem.F.entry_list_mul (PySem.F.args_list_mul_2 _ _) (AutoListH.list___mul___list_int_3 l its.toArray n k t hfit hcap hlong) ⟨e, ?_⟩⟩)
  rw [hnew]
  exact ⟨.ref _, _, I.lnew (t' := s.toks) (r.rep k.toNat) (by rw [PyProof.Rows.lm_len_rep_flat, Nat.mul_comm]; exact hz), rfl, q _ I.fresh⟩
theorem Reps.rep {Z : Wd} {β : List Addr} {H : Hp} {vs : List V} {l : List D} (r : Reps Z β H vs l) : ∀ k : Nat, Reps Z β H (List.replicate k vs).flatten (List.replicate k l).flatten
  | 0 => .nil
  | k + 1 => by
    rw [List.replicate_succ, List.replicate_succ, List.flatten_cons, List.flatten_cons]
    exact r.append (r.rep k)
def repL (l : List D) (k : Int) : Option (List D) := if -1000 ≤ k ∧ k ≤ 1000000 ∧ l.length * k.toNat ≤ lim then some (List.replicate k.toNat l).flatten else none
theorem tuple_mul1 (l : Addr) (items : Array Value) (n : Nat) (dd : Option Addr) (sl : Array (Option Value)) (u : Tok) :
    Meets (Builtin.«tuple.__mul__» ⟨[.ref l, .int 1 u], []⟩) (fun _ R s => s.heap.get? l = some { cls := .type "tuple", dict := dd, data := .seq items n, slots := sl } ∧ R (.ok (.ret (.ref l))) s) :=
  .of_wp fun prog w A R s h => by
    obtain ⟨hp, g, d, tk, os⟩ := s
    obtain ⟨hl, h⟩ := h
    have f1 := AutoSeq1.idx_int
    wp_walk using wpAny_loadPart' hl
    exact ⟨_, rfl, h⟩
def rRep1 (K : PySem.W.Frag) : L2.R2 := fun x y H Q => ∃ l xs, x = .ref l ∧ y = .int 1 ∧ SqT K H l xs ∧ Q (.ref l) H
theorem op_rep1 : OpR X (binaryOp .Mult) (rRep1 X.K) := by
  intro pins s σ H x y v u Q I rx ry h
  obtain ⟨l, xs, rfl, rfl, hT, q⟩ := h
  cases rx
  obtain ⟨t, rfl⟩ := ry
  obtain ⟨its, r, ⟨⟨cls, dd, data, sl⟩, ho, hc, n, hd⟩, hs⟩ := I.tuple hT
  simp only at hc hd
  subst hc hd
  exact wpAny_binaryOp_repeat_ref (T := "tuple") (U := "int") (by decide) ⟨_, ho, rfl⟩ (fun s' => typeIs_int s' 1 t) noFill_tuple_mul F.fills_int_mul F.slot_int_rmul repeat_tuple F.slot_int_index.lookup
    (call_meets F.slot_int_rmul (typeIs_int s 1 t) F.entry_int_rmul (F.args_int_rmul_2 _ _) (int_rmul_tuple 1 t l its.toArray n dd sl)
      ⟨ho, rfl, ⟨_, ho, rfl⟩, call_meets F.slot_tuple_mul ⟨_, ho, rfl⟩ F.entry_tuple_mul (F.args_tuple_mul_2 _ _) (tuple_mul1 l its.toArray n dd sl t) ⟨ho, ⟨.ref l, _, I, rfl, q⟩⟩⟩)
/-- a * b: ints; a list or a tuple (not empty, once at least) times an int -/
def mulQ : D → D → Option D
  | .lst l, .int k => (repL l k).map .lst
  | .tup l, .int k => if l ≠ [] ∧ 1 ≤ k ∧ k ≤ 1000 ∧ l.length ≤ 1000 then some (.tup (List.replicate k.toNat l).flatten) else none
  | .int i, .int j => mulD (.int i) (.int j)
  | _, _ => none
theorem repL_some {l m : List D} {k : Int} (h : repL l k = some m) : -1000 ≤ k ∧ k ≤ 1000000 ∧ l.length * k.toNat ≤ lim ∧ m = (List.replicate k.toNat l).flatten := by
  unfold repL at h
  split at h
  · rename_i z; cases h; exact ⟨z.1, z.2.1, z.2.2, rfl⟩
  · cases h
theorem vop_mulQ : VOpQ X F (binaryOp .Mult) (RX (zX X F)) (RX (zX X F)) (RQ (zX X F)) mulQ := by
  obtain ⟨rV, h1, h2⟩ := vop_mul (X := X) (F := F)
  refine ⟨_, ((h1.or op_repF).or op_repT).or op_rep1, fun x y a b c β H Q st r1 r2 e q => ?_⟩
  obtain ⟨S, st⟩ := st
  cases b with
  | int k =>
    have ry := r2.rep (fun _ z => by cases z)
    cases a with
    | int i => exact .inl (.inl (.inl (h2 x y (.int i) (.int k) c β H Q (r1.rep fun _ z => by cases z) ry e fun z H' s r => q z H' s (.inl r))))
    | lst l =>
      cases ry
      have e : (repL l k).map D.lst = some c := e
      cases e2 : repL l k with
      | none => rw [e2] at e; cases e
      | some m =>
        rw [e2] at e
        cases e
        obtain ⟨k1, k2, k3, rfl⟩ := repL_some e2
        obtain ⟨p1, vs, rfl, g1, d1⟩ := r1.ls.rd
        refine .inl (.inl (.inr ⟨p1, k, vs, rfl, rfl, d1, by omega, by omega, by rw [g1.length]; exact Nat.le_trans k3 lim_le, fun p np => ?_⟩))
        exact q _ _ (.new np) (.inr ⟨_, rfl, p, _, rfl, np, upd_same, (g1.rep k.toNat).mono (.of (.new np)), st.notin np⟩)
    | tup l =>
      cases ry
      have rx := r1.rep (fun _ z => by cases z)
      have e : (if l ≠ [] ∧ 1 ≤ k ∧ k ≤ 1000 ∧ l.length ≤ 1000 then some (D.tup (List.replicate k.toNat l).flatten) else none) = some c := e
      split at e
      · rename_i z
        cases e
        cases rx with
        | tup h g =>
          by_cases hk : k = 1
          · subst hk
            refine .inr ⟨_, _, rfl, rfl, h, q _ H (.refl _) (.inl ?_)⟩
            have e1 : (List.replicate (Int.toNat 1) l).flatten = l := by simp
            rw [e1]
            exact .tup h g
          have hk2 : 2 ≤ k := by omega
          refine .inl (.inr ⟨_, k, _, rfl, rfl, h, fun n => z.1 ?_, hk2, z.2.2.1, by rw [g.length]; exact z.2.2.2, fun p np => ?_⟩)
          · have := g.length
            rw [n] at this
            exact List.eq_nil_of_length_eq_zero this.symm
          · exact q _ _ (.new np) (.inl (.tup (.of upd_same) ((g.rep k.toNat).mono (.of (.new np)))))
      · cases e
    | _ => cases e
  | _ => cases a <;> cases e
def repD (a b : D) : Option (List D) := match a, b with
  | .lst l, .int k => repL l k
  | _, _ => none
theorem vop_repL : VOpQ X F (binaryOp .Mult) (RX (zX X F)) (RX (zX X F)) (RO (zX X F)) repD := by
  refine ⟨_, op_repF, fun x y a b c β H Q st r1 r2 e q => ?_⟩
  obtain ⟨S, st⟩ := st
  cases b with
  | int k =>
    have ry := r2.rep (fun _ z => by cases z)
    cases a with
    | lst l =>
      cases ry
      have e : repL l k = some c := e
      obtain ⟨k1, k2, k3, rfl⟩ := repL_some e
      obtain ⟨p1, vs, rfl, g1, d1⟩ := r1.ls.rd
      refine ⟨p1, k, vs, rfl, rfl, d1, by omega, by omega, by rw [g1.length]; exact Nat.le_trans k3 lim_le, fun p np => ?_⟩
      exact q _ _ (.new np) ⟨p, _, rfl, np, upd_same, (g1.rep k.toNat).mono (.of (.new np)), st.notin np⟩
    | _ => cases e
  | _ => cases a <;> cases e

def sliceQ (d : D) (lo hi : Option Int) : Option D := match d with
  | .lst l => some (.lst (cut l lo hi))
  | d => sliceD d lo hi
theorem ve_sliceQ {lo hi : Option Expr} {pos p2 : Pos} {r : Env → Sto → Res D} {rl rh : Env → Sto → Res (Option Int)} (he : VX X F W e r) (hl : VPt X F W lo rl) (hh : VPt X F W hi rh) : VQ X F W (.Subscript e (.Slice lo hi none p2) pos) (rSl sliceQ r rl rh) := pe_imp (pe_slice (SlR.or (SlR.or sl_tupA sl_str) sl_list) he hl hh) fun σ H Q q => by
  obtain ⟨ρ, S, β, hr, hp⟩ := q
  refine tG_bind anti_Q hr hp fun x H1 d1 S1 β1 r1 e1 c1 p1 => ?_
  refine tG_bind anti_Q r1 p1 fun o1 H2 d2 S2 β2 r2 e2 c2 p2 => ?_
  cases c2
  refine tG_bind anti_Q r2 p2 fun o2 H3 d3 S3 β3 r3 e3 c3 p3 => ?_
  cases c3
  cases d1 with
  | tup l =>
    cases ((c1.mono e2).mono e3).rep (fun _ z => by cases z) with
    | tup h g =>
      refine .inl (.inl ⟨_, _, rfl, h, fun ⟨w1, w2⟩ => ?_, fun _ p np => ?_⟩)
      · refine tG_end r3 p3 (.refl _) (.inl ?_)
        rw [g.length] at w1 w2
        rw [cut_whole w1 w2]
        exact .tup h g
      · exact tG_end r3 p3 (.new np) (.inl (.tup (.of upd_same) (g.cut.mono (.of (.new np)))))
  | lst l =>
    obtain ⟨a, vs, e0, g, h⟩ := ((c1.mono e2).mono e3).ls.sq
    refine .inr ⟨a, vs, e0, h, fun p np => ?_⟩
    exact tG_end r3 p3 (.new np) (.inr ⟨_, rfl, p, _, rfl, np, upd_same, g.cut.mono (.of (.new np)), r3.sto.notin np⟩)
  | str z =>
    cases c1.rep (fun _ z => by cases z)
    have p3 : Post (zX X F) F W ρ σ β3 H3 (RQ (zX X F)) (optR (if z.length ≤ lim then some (D.str (cutS z o1 o2)) else none) S3) Q := p3
    split at p3
    · rename_i hz
      exact .inl (.inr ⟨z, rfl, Nat.le_trans hz lim_le, tG_end r3 p3 (.refl _) (.inl (.str _))⟩)
    · exact p3.elim
  | _ => exact p3.elim
end
end VS

set_option maxHeartbeats 4000000
namespace VS
open PySem PySem.Spec PyProof.Rows L2 HT
open AutoSeq1 (wpAny_loadPart')
open Sem (wp)

theorem meets_enumerate_newT (l : Addr) (items : Array Value) (n : Nat) (dct : Option Addr) (sl : Array (Option Value)) :
    Meets (Builtin.«enumerate.__new__» ⟨[.type "enumerate", .ref l], []⟩) (fun _ R s => s.heap.get? l = some { cls := .type "tuple", dict := dct, data := .seq items n, slots := sl } ∧
      R (.ok (.ret (.ref (s.heap.push { cls := .type "tuple_iterator", data := .fields #[.ref l, .int 0 0] }).objs.size)))
        { s with heap := (s.heap.push { cls := .type "tuple_iterator", data := .fields #[.ref l, .int 0 0] }).push { cls := .type "enumerate", data := .fields #[.none, .bool false, .ref s.heap.objs.size, rawInt 0, .none, .none] } }) :=
  .of_wp fun prog w A R s h => by
    obtain ⟨hp, g, d, tk, os⟩ := s; obtain ⟨hl, h⟩ := h
    have hsub := sub_enumerate
    have hL : Heap.IsTuple (Shared.heap ⟨hp, g, d, tk, os⟩) l items := ⟨_, hl, rfl, n, rfl⟩
    wp_walk using wpAny_loadPart' hl
    refine wpAny_stack_any fun st => wpAny_pure ?_
    split
    · rename_i c _ _ _ _ _
      cases (c == Value.type "enumerate")
      · wp_walk using wpAny_loadPart' hl, wpAny_pyIter_tuple hL
        exact ⟨_, rfl, h⟩
      · wp_walk using wpAny_loadPart' hl, wpAny_pyIter_tuple hL
        exact ⟨_, rfl, h⟩
    · wp_walk using wpAny_loadPart' hl, wpAny_pyIter_tuple hL
      exact ⟨_, rfl, h⟩
theorem call_enumerate_tuple {prog : Program} {w : World} {A : Around} {E : Value → Shared → Prop} {s : Shared} {l : Addr} {items : Array Value} {Q : Value → Shared → Prop} (hL : s.heap.IsTuple l items)
    (h : ∀ h', IsEnum h' (s.heap.objs.size + 1) s.heap.objs.size 0 .none → h'.IsTupleIter s.heap.objs.size l 0 → h'.objs.size = s.heap.objs.size + 2 →
      (∀ b o, s.heap.get? b = some o → h'.get? b = some o) → Q (.ref (s.heap.objs.size + 1)) { s with heap := h' }) :
    wpAny (model prog w) A (call (.type "enumerate") [.ref l]) Q E s := by
  obtain ⟨⟨c, dct, dt, sl⟩, hl, hc, n, hd⟩ := hL
  replace hc : c = .type "tuple" := hc
  replace hd : dt = .seq items n := hd
  subst hc hd
  refine callType_new PySem.F.called_enumerate (by decide) (PySem.F.typeCall_enumerate_1 _) (PySem.F.newCall_enumerate_1 _) (fun obj => PySem.F.args_object_init_2 obj _) PySem.F.entry_enumerate_new
    (meets_enumerate_newT l items n dct sl) ⟨hl, ?_⟩
  have hz : (s.heap.push { cls := .type "tuple_iterator", data := .fields #[.ref l, .int 0 0] }).objs.size = s.heap.objs.size + 1 := Heap.size_push ..
  show _ ∧ _
  rw [hz]
  have he : IsEnum ((s.heap.push { cls := .type "tuple_iterator", data := .fields #[.ref l, .int 0 0] }).push
      { cls := .type "enumerate", data := .fields #[.none, .bool false, .ref s.heap.objs.size, rawInt 0, .none, .none] }) (s.heap.objs.size + 1) s.heap.objs.size 0 .none := by
    have := Heap.get?_push_size (s.heap.push { cls := .type "tuple_iterator", data := .fields #[.ref l, .int 0 0] })
      (o := { cls := .type "enumerate", data := .fields #[.none, .bool false, .ref s.heap.objs.size, rawInt 0, .none, .none] }) rfl
    rw [hz] at this; exact this
  refine ⟨⟨_, he, rfl⟩, h _ he ⟨_, Heap.get?_push_of_some _ (Heap.get?_push_size _ rfl), rfl, rfl⟩ (by rw [Heap.size_push, hz]) fun b o x => Heap.get?_push_of_some _ (Heap.get?_push_of_some _ x)⟩
/-- the tuple at a, each item in a new pair -/
def ItT (K : PySem.W.Frag) (a : Addr) : It :=
  ⟨fun i H => ∃ (xs : List V) (x : V), SqT K H a xs ∧ xs[i]? = some x, fun i H v H' => ∃ T x, v = .ref T ∧ H T = none ∧ H' = upd H T (.tup [.int (i : Nat), x]) ∧ ∀ xs, SqT K H a xs → xs[i]? = some x, fun i H => ∃ xs : List V, SqT K H a xs ∧ xs.length ≤ i⟩
theorem turn_enumT {P : Program} {w : World} {K : PySem.W.Frag} {elts : List Expr} {kk : Nat} {tpos : Pos} (a e it : Addr) :
    Turn P w K (.Tuple elts kk tpos) (ItT K a) [e, it] e (fun i h => (∃ old, IsEnum h e it ((i : Nat) : Int) old) ∧ h.IsTupleIter it a i ∧ e ≠ it ∧ e ≠ a ∧ a ≠ it) where
  mem := by simp
  obj := fun i h st b hb => by
    obtain ⟨⟨old, he⟩, ⟨o, ho, hc, hd⟩, _⟩ := st
    have e' : b = e ∨ b = it := by simpa using hb
    rcases e' with z | z
    · rw [z]; exact ⟨_, he, fun v q => nomatch q⟩
    · rw [z]; exact ⟨o, ho, fun v q => by rw [hd] at q; cases q⟩
  keep := fun i h h' st k => let ⟨⟨old, he⟩, hi, hne⟩ := st; ⟨⟨old, k e (by simp) _ he⟩, hi.at fun o q => k it (by simp) o q, hne⟩
  item := by
    intro X hP hw hK hc i pins s σ H E I hf st hg
    subst hP hw hK
    obtain ⟨⟨old, he⟩, hit, hne, hea, hai⟩ := st
    obtain ⟨xs, x, hq, hx⟩ := hg
    obtain ⟨its, rv, p, hz⟩ := I.tuple hq
    obtain ⟨u, hu, ru⟩ := rv.get hx
    have hel : e < s.heap.objs.size := Heap.lt_size he
    have hil : it < s.heap.objs.size := by obtain ⟨_, q, _⟩ := hit; exact Heap.lt_size q
    have hlt : i < its.toArray.size := by
      have := (List.getElem?_eq_some_iff.mp hu).1
      simpa using this
    have ht : s.heap.IsTuple a its.toArray := p
    refine wpAny_pyNext_enum_itemD (Draws.tuple (A := X.A.in1) (I.ok.hd hc) it a hai its.toArray) he ⟨hit, ht⟩ hlt hne (by simp; exact ⟨hne, hea⟩) fun u' h' tk hu' ho hst' hT hsz hk => ?_
    have eu : u' = u := by
      have q1 : its.toArray[i]? = some u := by simpa using hu
      rw [q1] at hu'
      exact (Option.some.inj hu').symm
    subst eu
    refine ⟨_, rfl, wpAny_letOwnedTupleGo_enum (s := { s with heap := h', toks := tk + 1 }) ho fun h'' he' sb => ?_⟩
    have hT2 : h''.get? s.heap.objs.size = some { cls := .type "tuple", data := .seq #[.int i tk, u'] } := (sb.2 _ (Nat.ne_of_gt hel)).trans hT
    have new : ObjOk X.prog X.w (upd H s.heap.objs.size (.tup [.int (i : Nat), x])) h'' s.heap.objs.size (.tup [.int (i : Nat), x]) :=
      ⟨by show 2 ≤ sizeLine; decide, [.int i tk, u'], .cons ⟨_, rfl⟩ (.cons ru .nil), ⟨_, hT2, rfl, _, rfl⟩⟩
    have I1 : Inv X pins σ (upd H s.heap.objs.size (.tup [.int (i : Nat), x])) { s with heap := h'', toks := tk + 1 } :=
      I.turnedNew (ch := [e, it]) (fun b ob hb q => (sb.2 b (fun z => hb (by simp [z]))).trans (hk b ob (fun z => hb (by simp [z])) (fun z => hb (by simp [z])) q)) hf (Nat.le_refl _) new
    refine ⟨.ref s.heap.objs.size, _, I1, rfl, ⟨_, x, rfl, I.hok.fresh (Nat.le_refl _), rfl, fun ys hy => by rw [I.tuple_inj hy hq]; exact hx⟩, ⟨⟨u', ?_⟩, hst'.1.at fun o q => (sb.2 it (Ne.symm hne)).trans q, hne, hea, hai⟩, fun b hb => ?_⟩
    · have e1 : ((i + 1 : Nat) : Int) = (i : Int) + 1 := by omega
      rw [e1]; exact he'
    · have hb' : b < s.heap.objs.size := by
        have e' : b = e ∨ b = it := by simpa using hb
        rcases e' with z | z
        · rw [z]; exact hel
        · rw [z]; exact hil
      rw [upd_ne (Nat.ne_of_lt hb')]
      exact (hf b hb).1
  done := by
    intro X hP hw hK hc i pins s σ H E I hf st hg
    subst hP hw hK
    obtain ⟨⟨old, he⟩, hit, hne, hea, hai⟩ := st
    obtain ⟨xs, hq, hx⟩ := hg
    obtain ⟨its, rv, p, hz⟩ := I.tuple hq
    obtain ⟨f0, f1, f2, f3, f4, f5⟩ := hf it (by simp)
    have hl := rv.length
    have hn : its.toArray[i]? = none := by simp; omega
    have D : Draws X.prog X.w X.A.in1 it [it, a] i (fun _ _ => False) (fun j h => j = i ∧ h.IsTupleIter it a i ∧ h.IsTuple a its.toArray) := ⟨fun _ _ st => let ⟨o, ho, _⟩ := st.2.1; ⟨o, ho⟩,
      fun _ _ _ st hk => ⟨st.1, st.2.1.at fun o e => hk it (by simp) o e, st.2.2.at fun o e => hk a (by simp) o e⟩, fun j s Q E hj st _ => absurd st.1 (Nat.ne_of_lt hj),
      fun s Q E st hE => wpAny_nextOf_tuple_end (A := X.A.in1) (I.ok.hd hc) st.2.1 st.2.2 hn hE⟩
    exact wpAny_pyNext_enum_endD D he ⟨rfl, hit, (p : s.heap.IsTuple a its.toArray)⟩ fun h' eb => ⟨rfl, I.turned (t' := s.toks) (fun b o hb q => eb b o hb q) f0 f1 f3 f4 f5⟩
  self := fun A i s Q E st h => let ⟨⟨_, he⟩, _⟩ := st; wpAny_pyIter_enum he h
/-- enumerate of a list or a tuple -/
def iEnumA (K : PySem.W.Frag) (ta : TA) : TI := fun σ H R => ta σ H fun vs H1 => ∃ a xs, vs = [.ref a] ∧ ((SqL K H1 a xs ∧ R (Ite K a) H1) ∨ (SqT K H1 a xs ∧ R (ItT K a) H1))
theorem pi_enumA {X : Cx} {e : Expr} {ta : TA} {p pos tpos : Pos} {elts : List Expr} {kk : Nat} (hg : Gl X "enumerate") (hm : X.mg "enumerate" = none) (ha : PA X [e] ta) (hs : starEach [e] X.env = [(false, eval e X.env)] := by rfl) :
    PI X (.Tuple elts kk tpos) (.Call (.Name "enumerate" p) [e] [] pos) (iEnumA X.K ta) := by
  refine ⟨fun pins s σ H R I h => ?_⟩
  refine Call_ (ld_blt I hg hm boot_enumerate (PyProof.Rows.callWith_type1 (thn (ha.run pos pins s σ H _ I h) fun us s1 ⟨vs, H1, I1, r1, q1⟩ => ?_) hs rfl))
  obtain ⟨a, xs, ex, q⟩ := q1
  subst ex
  cases r1 with
  | cons r rr =>
    cases rr
    cases r
    rcases q with ⟨hq, q⟩ | ⟨hq, q⟩
    · obtain ⟨its, rv, p', hz⟩ := I1.list hq
      refine call_enumerate_list p'.isList fun h' he hit hsz hk => wpAny_pyIter_enum he ?_
      have I2 : Inv X pins σ H1 { s1 with heap := h' } := I1.kept (t' := s1.toks) hk
      refine ⟨s1.heap.objs.size + 1, [s1.heap.objs.size + 1, s1.heap.objs.size], _, _, H1, rfl, I2, turn_enum a (s1.heap.objs.size + 1) s1.heap.objs.size, ⟨⟨.none, he⟩, hit, Nat.succ_ne_self _⟩, fun b hb => ?_, q⟩
      have e' : b = s1.heap.objs.size + 1 ∨ b = s1.heap.objs.size := by simpa using hb
      have hle : s1.heap.objs.size ≤ b := by
        rcases e' with z | z
        · rw [z]; exact Nat.le_add_right _ _
        · rw [z]; exact Nat.le_refl _
      exact I1.fpOk hle (I1.hok.fresh hle)
    · obtain ⟨its, rv, p', hz⟩ := I1.tuple hq
      have hal : a < s1.heap.objs.size := by
        obtain ⟨o, ho, _⟩ := id p'
        exact Heap.lt_size ho
      refine call_enumerate_tuple (show s1.heap.IsTuple a its.toArray from p') fun h' he hit hsz hk => wpAny_pyIter_enum he ?_
      have I2 : Inv X pins σ H1 { s1 with heap := h' } := I1.kept (t' := s1.toks) hk
      refine ⟨s1.heap.objs.size + 1, [s1.heap.objs.size + 1, s1.heap.objs.size], _, _, H1, rfl, I2, turn_enumT a (s1.heap.objs.size + 1) s1.heap.objs.size, ⟨⟨.none, he⟩, hit, Nat.succ_ne_self _, Nat.ne_of_gt (Nat.lt_succ_of_lt hal), Nat.ne_of_lt hal⟩, fun b hb => ?_, q⟩
      have e' : b = s1.heap.objs.size + 1 ∨ b = s1.heap.objs.size := by simpa using hb
      have hle : s1.heap.objs.size ≤ b := by
        rcases e' with z | z
        · rw [z]; exact Nat.le_add_right _ _
        · rw [z]; exact Nat.le_refl _
      exact I1.fpOk hle (I1.hok.fresh hle)

theorem slicePick_rev (n : Nat) : Builtin.Slice.sliceAdjust none none (-1) (n : Int) = ((n : Int) - 1, -1) := by
  unfold Builtin.Slice.sliceAdjust
  simp
theorem slicePlaces_rev (n : Nat) : Builtin.Slice.slicePlaces ((n : Int) - 1) (-1) (-1) = n := by
  unfold Builtin.Slice.slicePlaces
  have h1 : ¬ ((-1 : Int) > 0) := by omega
  simp only [h1, if_false]
  by_cases h : n = 0
  · subst h; simp
  · rw [if_pos (by omega)]
    have : ((n : Int) - 1 - -1 - 1) / (- -1) = (n : Int) - 1 := by
      rw [show (- -1 : Int) = 1 by decide, Int.ediv_one]; omega
    rw [this]
    omega
theorem pick_rev (xs : Array Value) : ((List.range xs.size).filterMap fun (m : Nat) => xs[(((xs.size : Int) - 1) + (m : Int) * (-1)).toNat]?).toArray = xs.toList.reverse.toArray := by
  congr 1
  have e : ((List.range xs.size).filterMap fun (m : Nat) => xs[(((xs.size : Int) - 1) + (m : Int) * (-1)).toNat]?) = ((List.range xs.size).map fun k => xs.size - 1 - k).filterMap (fun j => xs[j]?) := by
    rw [List.filterMap_map]
    congr 1
    funext m
    have : (((xs.size : Int) - 1) + (m : Int) * (-1)).toNat = xs.size - 1 - m := by omega
    rw [this]
    rfl
  rw [e, PySem.W.krv_range, List.filterMap_reverse, PySem.W.krv_all]
section
variable {prog : Program} {w : World} {A : Around} {E : Value → Shared → Prop} {s : Shared}
theorem getItem_tuple_rev {t sl : Addr} {items : Array Value} {vs : Value} {Q : Value → Shared → Prop} (ht : IsTup s.heap t items) (hs : s.heap.IsSliceOf sl .none .none vs) (ps : IsPart vs (some (-1)))
    (h : Q (.ref s.heap.objs.size) { s with heap := s.heap.push { cls := .type "tuple", data := .seq items.toList.reverse.toArray } })
    (hsz : items.size ≤ sizeLine) : wpAny (model prog w) A (getItem (.ref t) (.ref sl)) Q E s := by
  have htake : sizeOk (.seq items.toList.reverse.toArray) := by
    show items.toList.reverse.toArray.size ≤ sizeLine
    rw [List.size_toArray, List.length_reverse, Array.length_toList]
    exact hsz
  obtain ⟨os, hos, hcs, hds⟩ := id hs
  have hTs : s.TypeIs (.ref sl) "slice" := ⟨os, hos, hcs⟩
  unfold getItem
  try with_reducible refine wpAny_holding ?_
  first | refine wpAny_bind (wpAny_pure ?_) | skip
  refine wpAny_bind (wpAny_sequenceKey ht.typeIs (by decide) ?_)
  refine wpAny_bind (wpAny_callSpecial?_slot (name := Str.ofString "__getitem__") ht.typeIs PyProof.Rows.slot_tuple_getitem
    (wpAny_call_entry PyProof.Rows.slot_tuple_getitem ht.typeIs entry_tuple_getitem ?_ (args_tuple_getitem _ _)))
  show wpAny _ _ (Builtin.Tuple.tupleItemsOf (.ref t) >>= _) _ _ s
  refine wpAny_bind (tupleItemsOf_ ht ?_)
  refine wpAny_bind (wpAny_typeOf hTs ?_)
  rw [if_pos (by decide)]
  refine wpAny_bind ?_
  unfold Builtin.Slice.sliceApplied Builtin.Slice.sliceFields
  refine wpAny_bind (wpAny_bind (wpAny_field hos hds (x := .none) rfl (wpAny_bind (wpAny_field hos hds (x := .none) rfl (wpAny_bind (wpAny_field hos hds (x := vs) rfl (wpAny_pure ?_)))))))
  refine wpAny_bind (slicePart_ ps ?_)
  show wpAny _ _ (if ((-1 : Int) == 0) = true then _ else _) _ _ s
  rw [if_neg (by decide)]
  refine wpAny_bind (slicePart_none (wpAny_bind (slicePart_none (wpAny_bind (wpAny_pure ?_)))))
  show wpAny _ _ (match Builtin.Slice.sliceAdjust none none (-1) (items.size : Int) with | (lo, hi) => pure (lo, (-1 : Int), Builtin.Slice.slicePlaces lo hi (-1))) _ _ s
  rw [slicePick_rev]
  show wpAny _ _ (pure (((items.size : Int) - 1), (-1 : Int), Builtin.Slice.slicePlaces ((items.size : Int) - 1) (-1) (-1))) _ _ s
  rw [slicePlaces_rev]
  refine wpAny_pure ?_
  have hno : ¬ ((((items.size : Int) - 1) == 0 && (-1 : Int) == 1 && items.size == items.size) = true) := by
    intro q
    simp at q
  show wpAny _ _ (if (((items.size : Int) - 1) == 0 && (-1 : Int) == 1 && items.size == items.size) = true then _ else _) _ _ s
  rw [if_neg hno, pick_rev]
  first
    | exact wpAny_bind (m := Builtin.Tuple.tupleExact _) (wpAny_newObj_type (wpAny_pure ⟨_, rfl, wpAny_pure h⟩) htake)
    | exact wpAny_bind (m := Builtin.Tuple.tupleExact _) (wpAny_newObj_type (wpAny_bind (wpAny_pure (wpAny_pure ⟨_, rfl, wpAny_pure h⟩))) htake)
    | exact wpAny_bind (wpAny_bind (m := Builtin.Tuple.tupleExact _) (wpAny_newObj_type (wpAny_pure (wpAny_pure ⟨_, rfl, wpAny_pure h⟩)) htake))
    | exact wpAny_bind (wpAny_bind (m := Builtin.Tuple.tupleExact _) (wpAny_newObj_type (wpAny_pure ⟨_, rfl, wpAny_pure h⟩) htake))
end
def tRevA (K : PySem.W.Frag) (te : TE) : TE := fun σ H Q => te σ H fun x H1 => ∃ a xs, x = .ref a ∧ ((SqL K H1 a xs ∧ ∀ p, H1 p = none → Q (.ref p) (upd H1 p (.lst xs.reverse))) ∨ (SqT K H1 a xs ∧ ∀ p, H1 p = none → Q (.ref p) (upd H1 p (.tup xs.reverse))))
theorem pe_revA {X : Cx} {e : Expr} {te : TE} {k : Nat} {p1 p2 p3 pos : Pos} (he : PE X e te) : PE X (.Subscript e (.Slice none none (some (.UnaryOp .USub (.Constant (.int 1) k p1) p2)) p3) pos) (tRevA X.K te) := by
  refine ⟨fun pins s σ H Q I h => ?_⟩
  refine Subscript_ (thn (he.run pins s σ H _ I h) fun v s1 ⟨x, H1, I1, r1, q1⟩ => ?_)
  obtain ⟨a, xs, ex, q⟩ := q1
  subst ex
  cases r1
  have hst : PO X (some (.UnaryOp .USub (.Constant (.int 1) k p1) p2)) (tPart (tUn (rU fun i => .int (-i)) (tC (.int 1)))) := po_some (pe_un un_neg pe_int)
  refine wpAny_Slice (thn (po_none.run pins s1 σ H1 (fun o H2 => o = none ∧ H2 = H1) I1 ⟨rfl, rfl⟩) fun vl s2 ⟨l, H2, I2, pl, el, e2⟩ => ?_)
  subst el e2
  refine thn (po_none.run pins s2 σ H2 (fun o H3 => o = none ∧ H3 = H2) I2 ⟨rfl, rfl⟩) fun vu s3 ⟨u, H3, I3, pu, eu, e3⟩ => ?_
  subst eu e3
  refine thn (hst.run pins s3 σ H3 (fun o H4 => o = some (-1) ∧ H4 = H3) I3 ⟨1, rfl, -1, rfl, rfl, rfl⟩) fun vs s4 ⟨o, H4, I4, ps, eo, e4⟩ => ?_
  subst eo e4
  have I5 : Inv X pins σ H4 { s4 with heap := s4.heap.push { cls := .type "slice", data := .fields #[vl, vu, vs] } } := I4.kept (t' := s4.toks) fun b ob q => Heap.get?_push_of_some _ q
  rcases q with ⟨hx, q⟩ | ⟨hx, q⟩
  · obtain ⟨its, r, ht, hz⟩ := I5.list hx
    have hlen := r.length
    show wpAny (model X.prog X.w) X.A (subscriptTail e (.Slice none none (some (.UnaryOp .USub (.Constant (.int 1) k p1) p2)) p3) (.ref a) (.ref s4.heap.objs.size)) (EP X pins σ Q) X.xe { s4 with heap := s4.heap.push { cls := .type "slice", data := .fields #[vl, vu, vs] } }
    refine tail_any (ops := [.ref a, .ref s4.heap.objs.size]) ht.isList.typeIs (PySem.slot_list_getitem.lookup) ?_ (by with_unfolding_all rfl)
    refine wpAny_getItem_list_slice ht.isList (Heap.IsSliceOf.new _ vl vu vs) pl pu ps (by decide) ?_ (by rw [List.size_toArray]; omega)
    rw [PySem.W.krv_pick]
    refine ⟨.ref _, _, I5.laid (t' := s4.toks) (o := .lst xs.reverse) (fun b ob q => Heap.get?_push_of_some _ q) (Nat.le_refl _) ?_, rfl, q _ (I5.hok.fresh (Nat.le_refl _))⟩
    exact ⟨by rw [List.length_reverse]; exact hz, _, 0, r.reverse, Heap.get?_push_size _ rfl⟩
  · obtain ⟨its, r, ht, hz⟩ := I5.tuple hx
    have hlen := r.length
    cases pl
    cases pu
    show wpAny (model X.prog X.w) X.A (subscriptTail e (.Slice none none (some (.UnaryOp .USub (.Constant (.int 1) k p1) p2)) p3) (.ref a) (.ref s4.heap.objs.size)) (EP X pins σ Q) X.xe { s4 with heap := s4.heap.push { cls := .type "slice", data := .fields #[.none, .none, vs] } }
    refine tail_any (ops := [.ref a, .ref s4.heap.objs.size]) ht.typeIs (PyProof.Rows.slot_tuple_getitem.lookup) ?_ (by with_unfolding_all rfl)
    refine getItem_tuple_rev ht (Heap.IsSliceOf.new _ .none .none vs) ps ?_ (by rw [List.size_toArray]; omega)
    refine ⟨.ref _, _, I5.laid (t' := s4.toks) (o := .tup xs.reverse) (fun b ob q => Heap.get?_push_of_some _ q) (Nat.le_refl _) ?_, rfl, q _ (I5.hok.fresh (Nat.le_refl _))⟩
    exact ⟨by rw [List.length_reverse]; exact hz, _, r.reverse, IsTup.new _ _⟩
end VS

set_option maxHeartbeats 2000000
namespace VS
open PySem PySem.Spec PyProof.Rows L2

def enumF : Nat → List D → List D
  | _, [] => []
  | i, d :: l => .tup [.int (i : Nat), d] :: enumF (i + 1) l
theorem enumF_get : ∀ (l : List D) (k i : Nat), (enumF k l)[i]? = (l[i]?).map fun d => .tup [.int ((k + i : Nat) : Int), d]
  | [], k, i => by simp [enumF]
  | d :: l, k, 0 => by simp [enumF]
  | d :: l, k, i + 1 => by
    have e : k + (i + 1) = k + 1 + i := by omega
    simp only [enumF, List.getElem?_cons_succ]
    rw [enumF_get l (k + 1) i, e]
theorem enumF_len : ∀ (l : List D) (k : Nat), (enumF k l).length = l.length
  | [], _ => rfl
  | _ :: l, k => by simp [enumF, enumF_len l]
def zipF (l m : List D) : List D := List.zipWith (fun a b => .tup [a, b]) l m
theorem zipF_get (l m : List D) (i : Nat) {d : D} (h : (zipF l m)[i]? = some d) : ∃ a b, l[i]? = some a ∧ m[i]? = some b ∧ d = .tup [a, b] := by
  unfold zipF at h
  rw [List.getElem?_zipWith] at h
  cases e1 : l[i]? with
  | none => rw [e1] at h; simp at h
  | some a =>
    cases e2 : m[i]? with
    | none => rw [e1, e2] at h; simp at h
    | some b => rw [e1, e2] at h; simp at h; exact ⟨a, b, rfl, rfl, h.symm⟩
theorem zipF_len (l m : List D) : (zipF l m).length = min l.length m.length := by simp [zipF]
section
variable {Z : Wd}
theorem pair_new {β : List Addr} {H : Hp} {T : Addr} {v w : V} {a b : D} (np : H T = none) (r1 : Rep Z β H v a) (r2 : Rep Z β H w b) : Same H (upd H T (.tup [v, w])) ∧ Rep Z β (upd H T (.tup [v, w])) (.ref T) (.tup [a, b]) :=
  ⟨.new np, .tup (.of upd_same) (.cons (r1.mono (.of (.new np))) (.cons (r2.mono (.of (.new np))) .nil))⟩
theorem ite_D {a : Addr} {l : List D} {G : List Addr → Hp → Prop} (h : ∀ β H, G β H → ∃ vs, SqL Z.K H a vs ∧ Reps Z β H vs l) : ItD Z (Ite Z.K a) (enumF 0 l) G where
  go := fun i β H g hi => by
    obtain ⟨vs, h1, h2⟩ := h β H g
    rw [enumF_len] at hi
    obtain ⟨v, e, _⟩ := h2.get (List.getElem?_eq_getElem hi)
    exact ⟨vs, v, h1, e⟩
  yld := fun i β H x H' g y d hd => by
    obtain ⟨vs, h1, h2⟩ := h β H g
    obtain ⟨T, v, rfl, np, rfl, y⟩ := y
    rw [enumF_get] at hd
    cases el : l[i]? with
    | none => rw [el] at hd; cases hd
    | some e0 =>
      rw [el] at hd
      simp at hd
      subst hd
      obtain ⟨u, e, r⟩ := h2.get el
      have := y vs h1
      rw [e] at this
      cases this
      exact pair_new np (.int _) r
  stop := fun i β H g hi => by
    obtain ⟨vs, h1, h2⟩ := h β H g
    rw [enumF_len] at hi
    exact ⟨vs, h1, by rw [h2.length]; exact hi⟩
theorem itet_D {a : Addr} {l : List D} {G : List Addr → Hp → Prop} (h : ∀ β H, G β H → ∃ vs, SqT Z.K H a vs ∧ Reps Z β H vs l) : ItD Z (ItT Z.K a) (enumF 0 l) G where
  go := fun i β H g hi => by
    obtain ⟨vs, h1, h2⟩ := h β H g
    rw [enumF_len] at hi
    obtain ⟨v, e, _⟩ := h2.get (List.getElem?_eq_getElem hi)
    exact ⟨vs, v, h1, e⟩
  yld := fun i β H x H' g y d hd => by
    obtain ⟨vs, h1, h2⟩ := h β H g
    obtain ⟨T, v, rfl, np, rfl, y⟩ := y
    rw [enumF_get] at hd
    cases el : l[i]? with
    | none => rw [el] at hd; cases hd
    | some e0 =>
      rw [el] at hd
      simp at hd
      subst hd
      obtain ⟨u, e, r⟩ := h2.get el
      have := y vs h1
      rw [e] at this
      cases this
      exact pair_new np (.int _) r
  stop := fun i β H g hi => by
    obtain ⟨vs, h1, h2⟩ := h β H g
    rw [enumF_len] at hi
    exact ⟨vs, h1, by rw [h2.length]; exact hi⟩
theorem itz_D {a b : Addr} {l m : List D} {G : List Addr → Hp → Prop} (h : ∀ β H, G β H → ∃ vs ws, SqL Z.K H a vs ∧ Reps Z β H vs l ∧ SqL Z.K H b ws ∧ Reps Z β H ws m) : ItD Z (Itz Z.K a b) (zipF l m) G where
  go := fun i β H g hi => by
    obtain ⟨vs, ws, h1, h2, h3, h4⟩ := h β H g
    rw [zipF_len] at hi
    obtain ⟨v, e, _⟩ := h2.get (List.getElem?_eq_getElem (show i < l.length by omega))
    obtain ⟨w, e2, _⟩ := h4.get (List.getElem?_eq_getElem (show i < m.length by omega))
    exact ⟨vs, ws, v, w, h1, h3, e, e2⟩
  yld := fun i β H x H' g y d hd => by
    obtain ⟨vs, ws, h1, h2, h3, h4⟩ := h β H g
    obtain ⟨T, v, w, rfl, np, rfl, y1, y2⟩ := y
    obtain ⟨d1, d2, e1, e2, rfl⟩ := zipF_get l m i hd
    obtain ⟨u, e, r⟩ := h2.get e1
    obtain ⟨u2, e', r2⟩ := h4.get e2
    have t1 := y1 vs h1
    have t2 := y2 ws h3
    rw [e] at t1
    rw [e'] at t2
    cases t1
    cases t2
    exact pair_new np r r2
  stop := fun i β H g hi => by
    obtain ⟨vs, ws, h1, h2, h3, h4⟩ := h β H g
    rw [zipF_len] at hi
    exact ⟨vs, ws, h1, h3, by rw [h2.length, h4.length]; omega⟩
theorem itzT_D {a b : Addr} {l m : List D} {G : List Addr → Hp → Prop} (h : ∀ β H, G β H → ∃ vs ws, SqT Z.K H a vs ∧ Reps Z β H vs l ∧ SqT Z.K H b ws ∧ Reps Z β H ws m) : ItD Z (RZ.ItzT Z.K a b) (zipF l m) G where
  go := fun i β H g hi => by
    obtain ⟨vs, ws, h1, h2, h3, h4⟩ := h β H g
    rw [zipF_len] at hi
    obtain ⟨v, e, _⟩ := h2.get (List.getElem?_eq_getElem (show i < l.length by omega))
    obtain ⟨w, e2, _⟩ := h4.get (List.getElem?_eq_getElem (show i < m.length by omega))
    exact ⟨vs, ws, v, w, h1, h3, e, e2⟩
  yld := fun i β H x H' g y d hd => by
    obtain ⟨vs, ws, h1, h2, h3, h4⟩ := h β H g
    obtain ⟨T, v, w, rfl, np, rfl, y1, y2⟩ := y
    obtain ⟨d1, d2, e1, e2, rfl⟩ := zipF_get l m i hd
    obtain ⟨u, e, r⟩ := h2.get e1
    obtain ⟨u2, e', r2⟩ := h4.get e2
    have t1 := y1 vs h1
    have t2 := y2 ws h3
    rw [e] at t1
    rw [e'] at t2
    cases t1
    cases t2
    exact pair_new np r r2
  stop := fun i β H g hi => by
    obtain ⟨vs, ws, h1, h2, h3, h4⟩ := h β H g
    rw [zipF_len] at hi
    exact ⟨vs, ws, h1, h3, by rw [h2.length, h4.length]; omega⟩
end
/-- readable items under both -/
def LsS (Z : Wd) (a : Addr) (l : List D) (β : List Addr) (H : Hp) : Prop := ∃ vs, ImL Z.K H a vs ∧ Reps Z β H vs l
def TpS (Z : Wd) (a : Addr) (l : List D) (β : List Addr) (H : Hp) : Prop := ∃ vs, SqT Z.K H a vs ∧ Reps Z β H vs l
def LsE (Z : Wd) (a : Addr) (l : List D) (β : List Addr) (H : Hp) : Prop := LsR Z β H (.ref a) l
theorem lsS_st {Z : Wd} {a : Addr} {l : List D} : StabS (LsS Z a l) := fun β H β' H' ⟨vs, q1, q2⟩ s => ⟨vs, s.imL q1, q2.monoS s⟩
theorem tpS_st {Z : Wd} {a : Addr} {l : List D} : StabS (TpS Z a l) := fun β H β' H' ⟨vs, q1, q2⟩ s => ⟨vs, s.sqT q1, q2.monoS s⟩
theorem lsE_st {Z : Wd} {a : Addr} {l : List D} : StabE (LsE Z a l) := fun β H β' H' g s => LsR.mono s g
theorem tpE_st {Z : Wd} {a : Addr} {l : List D} : StabE (TpS Z a l) := fun β H β' H' ⟨vs, q1, q2⟩ s => ⟨vs, s.sqT q1, q2.mono s⟩
theorem lsE_sq {Z : Wd} {a : Addr} {l : List D} {β : List Addr} {H : Hp} (g : LsE Z a l β H) : ∃ vs, SqL Z.K H a vs ∧ Reps Z β H vs l := by
  obtain ⟨b, vs, e, r, h⟩ := LsR.sq g
  cases e
  exact ⟨vs, h, r⟩
theorem and_st {G1 G2 : List Addr → Hp → Prop} (h1 : StabS G1) (h2 : StabS G2) : StabS fun β H => G1 β H ∧ G2 β H := fun β H β' H' g s => ⟨h1 _ _ _ _ g.1 s, h2 _ _ _ _ g.2 s⟩
theorem and_stE {G1 G2 : List Addr → Hp → Prop} (h1 : StabE G1) (h2 : StabE G2) : StabE fun β H => G1 β H ∧ G2 β H := fun β H β' H' g s => ⟨h1 _ _ _ _ g.1 s, h2 _ _ _ _ g.2 s⟩
def enumD : List D → Option (List D)
  | [.tup l] => some (enumF 0 l)
  | [.lst l] => some (enumF 0 l)
  | _ => none
def zipD : List D → Option (List D)
  | [.tup l, .tup m] => some (zipF l m)
  | [.lst l, .lst m] => some (zipF l m)
  | _ => none
section
variable {X : Cx} {F : Fr} {W : WX} {e e2 : Expr} {elts : List Expr} {kk : Nat} {tpos p pos : Pos} {r : Env → Sto → Res (List D)}
theorem vi_enum (ha : VA X F W [e] r) (hm : X.mg "enumerate" = none) (hg : Gl X "enumerate" := by rfl) (hs : starEach [e] X.env = [(false, eval e X.env)] := by rfl) :
    VI X F W (.Tuple elts kk tpos) (.Call (.Name "enumerate" p) [e] [] pos) (rCl enumD r) := pi_imp (pi_enumA hg hm ha hs) fun σ H Q q => by
  obtain ⟨ρ, S, β, hr, hp⟩ := q
  refine tG_bind anti_I hr hp fun x H1 d S1 β1 r1 e1 c1 p1 => ?_
  cases ed : enumD d with
  | none => rw [ed] at p1; exact p1.elim
  | some m =>
    rw [ed] at p1
    match d, ed, c1 with
    | [.tup l], ed, c1 =>
      cases ed
      cases c1 with
      | cons q t =>
        cases t
        cases q with
        | @tup a vs l h g => exact ⟨a, vs, rfl, .inr ⟨h, tG_end r1 p1 (.refl _) ⟨TpS (zX X F) a l, itet_D fun β H g => g, ⟨vs, h, g⟩, tpS_st⟩⟩⟩
    | [.lst l], ed, c1 =>
      cases ed
      cases c1 with
      | cons q t =>
        cases t
        cases q with
        | @lst a vs l h g => exact ⟨a, vs, rfl, .inl ⟨h.sq, tG_end r1 p1 (.refl _) ⟨LsS (zX X F) a l, ite_D fun β H ⟨vs, h, g⟩ => ⟨vs, h.sq, g⟩, ⟨vs, h, g⟩, lsS_st⟩⟩⟩
theorem vie_enum (ha : VAX X F W [e] r) (hm : X.mg "enumerate" = none) (hg : Gl X "enumerate" := by rfl) (hs : starEach [e] X.env = [(false, eval e X.env)] := by rfl) :
    VIe X F W (.Tuple elts kk tpos) (.Call (.Name "enumerate" p) [e] [] pos) (rCl enumD r) := pi_imp (pi_enumA hg hm ha hs) fun σ H Q q => by
  obtain ⟨ρ, S, β, hr, hp⟩ := q
  refine tG_bind anti_Ie hr hp fun x H1 d S1 β1 r1 e1 c1 p1 => ?_
  cases ed : enumD d with
  | none => rw [ed] at p1; exact p1.elim
  | some m =>
    rw [ed] at p1
    match d, ed, c1 with
    | [.tup l], ed, c1 =>
      cases ed
      obtain ⟨v, rfl, q⟩ := one_arg c1
      cases q.rep (fun _ z => by cases z) with
      | @tup a vs l h g => exact ⟨a, vs, rfl, .inr ⟨h, tG_end r1 p1 (.refl _) ⟨TpS (zX X F) a l, itet_D fun β H g => g, ⟨vs, h, g⟩, tpE_st⟩⟩⟩
    | [.lst l], ed, c1 =>
      cases ed
      obtain ⟨v, rfl, q⟩ := one_arg c1
      obtain ⟨a, vs, rfl, g, h⟩ := q.ls.sq
      exact ⟨a, vs, rfl, .inl ⟨h, tG_end r1 p1 (.refl _) ⟨LsE (zX X F) a l, ite_D fun β H g => lsE_sq g, q.ls, lsE_st⟩⟩⟩
theorem vi_zip (ha : VA X F W [e, e2] r) (hm : X.mg "zip" = none) (hg : Gl X "zip" := by rfl) (hs : starEach [e, e2] X.env = (false, eval e X.env) :: starEach [e2] X.env := by rfl) (hpl : (backTo pos (starEach [e2] X.env)).any (·.1) = false := by rfl) :
    VI X F W (.Tuple elts kk tpos) (.Call (.Name "zip" p) [e, e2] [] pos) (rCl zipD r) := pi_imp (RZ.pi_zipA hg hm ha hs hpl) fun σ H Q q => by
  obtain ⟨ρ, S, β, hr, hp⟩ := q
  refine tG_bind anti_I hr hp fun x H1 d S1 β1 r1 e1 c1 p1 => ?_
  cases ed : zipD d with
  | none => rw [ed] at p1; exact p1.elim
  | some m =>
    rw [ed] at p1
    match d, ed, c1 with
    | [.tup l, .tup l2], ed, c1 =>
      cases ed
      cases c1 with
      | cons q t =>
        cases t with
        | cons q2 t =>
          cases t
          cases q with
          | @tup a vs l h g =>
            cases q2 with
            | @tup a2 vs2 l2 h2 g2 => exact ⟨a, a2, vs, vs2, rfl, .inr ⟨h, h2, tG_end r1 p1 (.refl _) ⟨fun β H => TpS (zX X F) a l β H ∧ TpS (zX X F) a2 l2 β H, itzT_D fun β H ⟨⟨vs, q1, q2⟩, ⟨ws, q3, q4⟩⟩ => ⟨vs, ws, q1, q2, q3, q4⟩, ⟨⟨vs, h, g⟩, ⟨vs2, h2, g2⟩⟩, and_st tpS_st tpS_st⟩⟩⟩
    | [.lst l, .lst l2], ed, c1 =>
      cases ed
      cases c1 with
      | cons q t =>
        cases t with
        | cons q2 t =>
          cases t
          cases q with
          | @lst a vs l h g =>
            cases q2 with
            | @lst a2 vs2 l2 h2 g2 => exact ⟨a, a2, vs, vs2, rfl, .inl ⟨h.sq, h2.sq, tG_end r1 p1 (.refl _) ⟨fun β H => LsS (zX X F) a l β H ∧ LsS (zX X F) a2 l2 β H, itz_D fun β H ⟨⟨vs, q1, q2⟩, ⟨ws, q3, q4⟩⟩ => ⟨vs, ws, q1.sq, q2, q3.sq, q4⟩, ⟨⟨vs, h, g⟩, ⟨vs2, h2, g2⟩⟩, and_st lsS_st lsS_st⟩⟩⟩
theorem vie_zip (ha : VAX X F W [e, e2] r) (hm : X.mg "zip" = none) (hg : Gl X "zip" := by rfl) (hs : starEach [e, e2] X.env = (false, eval e X.env) :: starEach [e2] X.env := by rfl) (hpl : (backTo pos (starEach [e2] X.env)).any (·.1) = false := by rfl) :
    VIe X F W (.Tuple elts kk tpos) (.Call (.Name "zip" p) [e, e2] [] pos) (rCl zipD r) := pi_imp (RZ.pi_zipA hg hm ha hs hpl) fun σ H Q q => by
  obtain ⟨ρ, S, β, hr, hp⟩ := q
  refine tG_bind anti_Ie hr hp fun x H1 d S1 β1 r1 e1 c1 p1 => ?_
  cases ed : zipD d with
  | none => rw [ed] at p1; exact p1.elim
  | some m =>
    rw [ed] at p1
    match d, ed, c1 with
    | [.tup l, .tup l2], ed, c1 =>
      cases ed
      cases c1 with
      | cons q t =>
        cases t with
        | cons q2 t =>
          cases t
          cases q.rep (fun _ z => by cases z) with
          | @tup a vs l h g =>
            cases q2.rep (fun _ z => by cases z) with
            | @tup a2 vs2 l2 h2 g2 => exact ⟨a, a2, vs, vs2, rfl, .inr ⟨h, h2, tG_end r1 p1 (.refl _) ⟨fun β H => TpS (zX X F) a l β H ∧ TpS (zX X F) a2 l2 β H, itzT_D fun β H ⟨⟨vs, q1, q2⟩, ⟨ws, q3, q4⟩⟩ => ⟨vs, ws, q1, q2, q3, q4⟩, ⟨⟨vs, h, g⟩, ⟨vs2, h2, g2⟩⟩, and_stE tpE_st tpE_st⟩⟩⟩
    | [.lst l, .lst l2], ed, c1 =>
      cases ed
      cases c1 with
      | cons q t =>
        cases t with
        | cons q2 t =>
          cases t
          obtain ⟨a, vs, rfl, g, h⟩ := q.ls.sq
          obtain ⟨a2, vs2, rfl, g2, h2⟩ := q2.ls.sq
          exact ⟨a, a2, vs, vs2, rfl, .inl ⟨h, h2, tG_end r1 p1 (.refl _) ⟨fun β H => LsE (zX X F) a l β H ∧ LsE (zX X F) a2 l2 β H, itz_D fun β H ⟨g1, g2⟩ => by
            obtain ⟨vs, q1, q2⟩ := lsE_sq g1
            obtain ⟨ws, q3, q4⟩ := lsE_sq g2
            exact ⟨vs, ws, q1, q2, q3, q4⟩, ⟨q.ls, q2.ls⟩, and_stE lsE_st lsE_st⟩⟩⟩
end

@[simp] def rUn (g : D → Option D) (r : Env → Sto → Res D) : Env → Sto → Res D := fun ρ S => (r ρ S).bind fun d S1 => optR (g d) S1
def revD : D → Option D
  | .tup l => some (.tup l.reverse)
  | .lst l => some (.lst l.reverse)
  | _ => none
def negD : D → Option D
  | .int i => some (.int (-i))
  | _ => none
def intsOf : List D → Option (List Int)
  | [] => some []
  | .int i :: l => (intsOf l).map (i :: ·)
  | _ :: _ => none
theorem intsOf_eq : ∀ {l : List D} {ns : List Int}, intsOf l = some ns → l = ns.map .int
  | [], _, h => by cases h; rfl
  | d :: l, ns, h => by
    cases d with
    | int b =>
      have h : (intsOf l).map (b :: ·) = some ns := h
      cases e : intsOf l with
      | none => rw [e] at h; cases h
      | some cs => rw [e] at h; cases h; rw [intsOf_eq e]; rfl
    | _ => cases h
/-- a < b: ints, tuples of ints -/
def ltQ : D → D → Option D
  | .int i, .int j => some (.bl (decide (i < j)))
  | .tup l, .tup m => match intsOf l, intsOf m with
    | some a, some b => some (.bl (HT.lexLt a b))
    | _, _ => none
  | _, _ => none
/-- x in c -/
def inD (a b : D) : Option D := match b with
  | .lst l => if (shp a && shp (.lst l)) = true then some (.bl (l.any fun z => eqB z a)) else none
  | .tup l => if (shp a && shp (.tup l)) = true then some (.bl (l.any fun z => eqB z a)) else none
  | _ => none
def notInD (a b : D) : Option D := match inD a b with
  | some (.bl c) => some (.bl (!c))
  | _ => none
theorem any_eqB {a : D} (ha : okD a = true) : ∀ {l : List D}, okDs l = true → ((pys l).any fun z => PyData.eqv z (py a)) = l.any fun z => eqB z a
  | [], _ => by simp [pys]
  | d :: l, h => by
    have h' : okD d = true ∧ okDs l = true := by simpa [okDs] using h
    simp [pys, py_eqv d a h'.1 ha, any_eqB ha h'.2]
section
variable {X : Cx} {F : Fr} {W : WX}
theorem ve_rev {e : Expr} {k : Nat} {p1 p2 p3 pos : Pos} {r : Env → Sto → Res D} (he : VX X F W e r) : VQ X F W (.Subscript e (.Slice none none (some (.UnaryOp .USub (.Constant (.int 1) k p1) p2)) p3) pos) (rUn revD r) := pe_imp (pe_revA he) fun σ H Q q => by
  obtain ⟨ρ, S, β, hr, hp⟩ := q
  refine tG_bind anti_Q hr hp fun x H1 d1 S1 β1 r1 e1 c1 p1 => ?_
  cases d1 with
  | tup l =>
    cases c1.rep (fun _ z => by cases z) with
    | tup h g => exact ⟨_, _, rfl, .inr ⟨h, fun p np => tG_end r1 p1 (.new np) (.inl (.tup (.of upd_same) (g.reverse.mono (.of (.new np)))))⟩⟩
  | lst l =>
    obtain ⟨a, vs, rfl, g, h⟩ := c1.ls.sq
    exact ⟨_, _, rfl, .inl ⟨h, fun p np => tG_end r1 p1 (.new np) (.inr ⟨_, rfl, p, _, rfl, np, upd_same, g.reverse.mono (.of (.new np)), r1.sto.notin np⟩)⟩⟩
  | _ => exact p1.elim
theorem ve_neg {e : Expr} {pos : Pos} {r : Env → Sto → Res D} (he : VF X F W e r) : VF X F W (.UnaryOp .USub e pos) (rUn negD r) := pe_imp (pe_un un_neg he) fun σ H Q q => by
  obtain ⟨ρ, S, β, hr, hp⟩ := q
  refine tG_bind anti_F hr hp fun x H1 d1 S1 β1 r1 e1 c1 p1 => ?_
  cases d1 with
  | int i => cases c1; exact ⟨i, rfl, tG_end r1 p1 (.refl _) (.int _)⟩
  | _ => exact p1.elim
theorem vop_ltQ (hu : X.A.units < cLine) : VOp X F (compareOp .Lt) (RF (zX X F)) (RF (zX X F)) (RF (zX X F)) ltQ := by
  obtain ⟨rV, h1, h2⟩ := vop_lt (X := X) (F := F)
  refine ⟨_, h1.or (op_ltT hu), fun x y a b d β H Q r1 r2 e q => ?_⟩
  cases a with
  | int i =>
    cases b with
    | int j => exact .inl (h2 x y _ _ d β H Q r1 r2 e q)
    | _ => cases e
  | tup l =>
    cases b with
    | tup m =>
      have e : (match intsOf l, intsOf m with | some a, some b => some (D.bl (HT.lexLt a b)) | _, _ => none) = some d := e
      cases e1 : intsOf l with
      | none => rw [e1] at e; cases e
      | some ns =>
        cases e2 : intsOf m with
        | none => rw [e1, e2] at e; cases e
        | some ms =>
          rw [e1, e2] at e
          cases e
          cases r1 with
          | tup k1 g1 =>
            cases r2 with
            | tup k2 g2 =>
              rw [intsOf_eq e1] at g1
              rw [intsOf_eq e2] at g2
              exact .inr ⟨_, _, ns, ms, rfl, rfl, by rw [← g1.ints]; exact k1, by rw [← g2.ints]; exact k2, q _ H (.refl _) (.bl _)⟩
    | _ => cases e
  | _ => cases e
def rInA (K : PySem.W.Frag) : L2.R2 := fun x y H Q => ∃ d ds, Dp K H x d ∧ (Dp K H y (.list ds) ∨ Dp K H y (.tuple ds)) ∧ SeqAt.shaped d = true ∧ PyData.canLayAll0 ds = true ∧ Q (.bl (ds.any fun z => PyData.eqv z d)) H
def rNotInA (K : PySem.W.Frag) : L2.R2 := fun x y H Q => ∃ d ds, Dp K H x d ∧ (Dp K H y (.list ds) ∨ Dp K H y (.tuple ds)) ∧ SeqAt.shaped d = true ∧ PyData.canLayAll0 ds = true ∧ Q (.bl (!ds.any fun z => PyData.eqv z d)) H
theorem op_inA (hu : X.A.units + 65 < cLine) : OpR X (compareOp .In) (rInA X.K) := by
  intro pins s σ H x y v u Q I rx ry h
  obtain ⟨d, ds, hd, he, sd, se, q⟩ := h
  obtain ⟨as, r1⟩ := Dp.reads I d x v hd rx
  rcases he with he | he
  · obtain ⟨bs, r2⟩ := Dp.reads I (.list ds) y u he ry
    exact SeqAt.in_list_reads r2 r1 se (SeqAt.canLay_of_shaped sd) (room_in_shaped sd hu) ⟨.bl _, H, I, rfl, q⟩
  · obtain ⟨bs, r2⟩ := Dp.reads I (.tuple ds) y u he ry
    exact SeqAt.in_tuple_reads r2 r1 se (SeqAt.canLay_of_shaped sd) (room_in_shaped sd hu) ⟨.bl _, H, I, rfl, q⟩
theorem op_notInA (hu : X.A.units + 65 < cLine) : OpR X (compareOp .NotIn) (rNotInA X.K) := by
  intro pins s σ H x y v u Q I rx ry h
  obtain ⟨d, ds, hd, he, sd, se, q⟩ := h
  obtain ⟨as, r1⟩ := Dp.reads I d x v hd rx
  rcases he with he | he
  · obtain ⟨bs, r2⟩ := Dp.reads I (.list ds) y u he ry
    exact SeqAt.notIn_list_reads r2 r1 se (SeqAt.canLay_of_shaped sd) (room_in_shaped sd hu) ⟨.bl _, H, I, rfl, q⟩
  · obtain ⟨bs, r2⟩ := Dp.reads I (.tuple ds) y u he ry
    exact SeqAt.notIn_tuple_reads r2 r1 se (SeqAt.canLay_of_shaped sd) (room_in_shaped sd hu) ⟨.bl _, H, I, rfl, q⟩
theorem in_facts {a b : D} {c : Bool} (h : inD a b = some (.bl c)) : ∃ l, (b = .lst l ∨ b = .tup l) ∧ okD a = true ∧ SeqAt.shaped (py a) = true ∧ okDs l = true ∧ c = l.any fun z => eqB z a := by
  have key : ∀ {l : List D} {s : Bool}, (if (shp a && s) = true then some (D.bl (l.any fun z => eqB z a)) else none) = some (.bl c) → shp a = true ∧ s = true ∧ c = l.any fun z => eqB z a := by
    intro l s h
    split at h
    · rename_i z
      simp only [Bool.and_eq_true] at z
      cases h
      exact ⟨z.1, z.2, rfl⟩
    · cases h
  have oka : ∀ {d : D}, shp d = true → okD d = true := fun {d} h => by unfold shp at h; simp only [Bool.and_eq_true] at h; exact h.1
  cases b with
  | lst l =>
    obtain ⟨k1, k2, k3⟩ := key h
    exact ⟨l, .inl rfl, oka k1, shp_ok k1, by simpa [okD] using oka k2, k3⟩
  | tup l =>
    obtain ⟨k1, k2, k3⟩ := key h
    exact ⟨l, .inr rfl, oka k1, shp_ok k1, by simpa [okD] using oka k2, k3⟩
  | _ => cases h
theorem inD_bl {a b d : D} (h : inD a b = some d) : ∃ c, d = .bl c := by
  unfold inD at h
  split at h
  · split at h
    · cases h; exact ⟨_, rfl⟩
    · cases h
  · split at h
    · cases h; exact ⟨_, rfl⟩
    · cases h
  · cases h
theorem vop_in (hu : X.A.units + 65 < cLine) : VOp X F (compareOp .In) (RX (zX X F)) (RX (zX X F)) (RF (zX X F)) inD := by
  refine ⟨_, op_inA hu, fun x y a b d β H Q r1 r2 e q => ?_⟩
  obtain ⟨c, rfl⟩ := inD_bl e
  obtain ⟨l, hb, o1, s1, o2, rfl⟩ := in_facts e
  have hy : Dp X.K H y (.list (pys l)) ∨ Dp X.K H y (.tuple (pys l)) := by
    rcases hb with rfl | rfl
    · have := dpx_of r2 (by simpa [okD] using o2)
      rw [py] at this
      exact .inl this
    · have := dpx_of r2 (by simpa [okD] using o2)
      rw [py] at this
      exact .inr this
  exact ⟨py a, pys l, dpx_of r1 o1, hy, s1, pys_lay l o2, by rw [any_eqB o1 o2]; exact q _ H (.refl _) (.bl _)⟩
theorem vop_notIn (hu : X.A.units + 65 < cLine) : VOp X F (compareOp .NotIn) (RX (zX X F)) (RX (zX X F)) (RF (zX X F)) notInD := by
  refine ⟨_, op_notInA hu, fun x y a b d β H Q r1 r2 e q => ?_⟩
  unfold notInD at e
  split at e
  · rename_i c e2
    cases e
    obtain ⟨l, hb, o1, s1, o2, rfl⟩ := in_facts e2
    have hy : Dp X.K H y (.list (pys l)) ∨ Dp X.K H y (.tuple (pys l)) := by
      rcases hb with rfl | rfl
      · have := dpx_of r2 (by simpa [okD] using o2)
        rw [py] at this
        exact .inl this
      · have := dpx_of r2 (by simpa [okD] using o2)
        rw [py] at this
        exact .inr this
    exact ⟨py a, pys l, dpx_of r1 o1, hy, s1, pys_lay l o2, by rw [any_eqB o1 o2]; exact q _ H (.refl _) (.bl _)⟩
  · cases e
end
end VS

set_option maxHeartbeats 4000000
namespace VS
open PySem PySem.Spec PyProof.Rows L2
section
variable {P : Program} {w : World} {A : Around} {E : Value → Shared → Prop} {s : Shared}
theorem call_set_tupsT {l : Addr} {items : Array Value} (ks : List (Addr × List Int)) {Q : Value → Shared → Prop} (hh : A.handled = none) (hl : s.heap.IsTuple l items) (hit : items.toList = ks.map fun p => Value.ref p.1)
    (hk : ∀ p ∈ ks, IsT P w s.heap p.2 p.1) (hfew : ks.length < 64) (hu : A.units + 3 < cLine)
    (h : ∀ (h' : Heap) (tk : Nat) L es ep t, SetTR P w h' s.heap.objs.size L es ep t → Got ks ks.length L → (∀ b o, s.heap.get? b = some o → h'.get? b = some o) → Q (.ref s.heap.objs.size) { s with heap := h', toks := tk }) :
    wpAny (model P w) A (call (.type "set") [.ref l]) Q E s := by
  have hisz : items.size = ks.length := by
    have q := congrArg List.length hit
    rw [Array.length_toList, List.length_map] at q
    exact q
  obtain ⟨c, tl, hmro⟩ := PySem.F.called_set.mro
  have hmade := PySem.F.called_set.made
  have hsub := PySem.F.called_set.sub
  refine wpAny_call (codeAny_of_tree ?_)
  show wpAny _ _ (callAny (.type "set") _) _ _ _
  refine wpAny_pure ⟨Code.quiet_builtin _ (by decide +kernel), codeAny_builtin PySem.F.entry_type_call ?_⟩
  rw [Around.under_plain (weight_type_call_type "set" [.ref l] []) rfl]
  have h1 := PySem.F.called_set.notType
  have h2 := PySem.F.called_set.canCreate
  have hct := PySem.F.typeCall_set_1 (.ref l)
  repeat (any_goals (first | assumption | wp_step))

  refine codeAny_mono (code_set_led1 (.ref l) (E := E) (Q₁ := fun obj s₁ => obj = .ref s.heap.objs.size ∧ s₁ = { s with heap := s.heap.push { cls := .type "set", dict := none, data := .set #[] 0 (.fresh 0 0 (!w.params.followText "set-order")) } }) ⟨rfl, rfl⟩) fun r s₁ hr => ?_
  cases r with
  | error e => exact hr
  | ok fl =>
    cases fl with
    | ret obj =>
      obtain ⟨rfl, rfl⟩ := hr
      have hS : (s.heap.push { cls := .type "set", dict := none, data := .set #[] 0 (.fresh 0 0 (!w.params.followText "set-order")) }).get? s.heap.objs.size = some { cls := .type "set", dict := none, data := .set #[] 0 (.fresh 0 0 (!w.params.followText "set-order")) } := Heap.get?_push_size _ rfl
      have hT : Shared.TypeIs { s with heap := s.heap.push { cls := .type "set", dict := none, data := .set #[] 0 (.fresh 0 0 (!w.params.followText "set-order")) } } (.ref s.heap.objs.size) "set" := ⟨_, hS, rfl⟩
      have hli := PySem.F.called_set.init.lookup
      have hbi := PySem.F.called_set.init.bind (.ref s.heap.objs.size)
      repeat (any_goals (first | assumption | wp_step))

      refine codeAny_mono (codeAny_call_builtin (R := wants (fun r s₂ => r = .none ∧ ∃ h' tk L es ep t, s₂ = { s with heap := h', toks := tk } ∧ SetTR P w h' s.heap.objs.size L es ep t ∧ Got ks ks.length L ∧
          (∀ b o, s.heap.get? b = some o → h'.get? b = some o)) E) PySem.F.called_set.init.plain PySem.F.entry_set_init (check_set_init_1 hT ?_)) fun r₂ s₂ hr₂ => ?_
      · obtain ⟨ol, hol, hcl, nl, hdl⟩ := hl
        obtain ⟨ocls, odict, odata, oslots⟩ := ol
        simp only at hcl hdl
        subst hcl; subst hdl
        have hol' : (s.heap.push { cls := .type "set", dict := none, data := .set #[] 0 (.fresh 0 0 (!w.params.followText "set-order")) }).get? l = some { cls := .type "tuple", dict := odict, data := .seq items nl, slots := oslots } := Heap.get?_push_of_some _ hol
        have hsls := PySem.F.sub_tuple_set
        have hslf := PySem.F.sub_tuple_frozenset
        have hne : (Value.type "tuple" == Value.type "dict") = false := by decide
        have hl1 : (s.heap.push { cls := .type "set", dict := none, data := .set #[] 0 (.fresh 0 0 (!w.params.followText "set-order")) }).IsTuple l items := ⟨_, hol', rfl, nl, rfl⟩
        unfold Builtin.«set.__init__» noKeywords Builtin.Frozenset.updateFrom
        generalize hPI : pyIter = PI
        wp_walk
        subst hPI

        refine wpAny_pyIter_tuple hl1 ?_
        refine wpAny_bind (wpAny_runValue ?_)
        have hlS : l < s.heap.objs.size := Heap.lt_size hol
        have hh3 : A.in1.in1.in1.handled = none := by simp [hh]
        have hz1 : (s.heap.push { cls := .type "set", dict := none, data := .set #[] 0 (.fresh 0 0 (!w.params.followText "set-order")) }).objs.size = s.heap.objs.size + 1 := Heap.size_push ..
        have hneI : l ≠ (s.heap.push { cls := .type "set", dict := none, data := .set #[] 0 (.fresh 0 0 (!w.params.followText "set-order")) }).objs.size := by
          rw [Heap.size_push]; exact Nat.ne_of_lt (Nat.lt_succ_of_lt hlS)
        have hSf : s.heap.objs.size ∉ [(s.heap.push { cls := .type "set", dict := none, data := .set #[] 0 (.fresh 0 0 (!w.params.followText "set-order")) }).objs.size, l] := by
          rw [Heap.size_push]; simp only [List.mem_cons, List.mem_singleton, List.not_mem_nil, or_false, not_or]
          exact ⟨Nat.ne_of_lt (Nat.lt_succ_self _), Nat.ne_of_gt hlS⟩
        have hval : ∀ (i : Nat) (v : Value), items[i]? = some v → ∃ p, ks[i]? = some p ∧ v = .ref p.1 := fun i v hv => by
          have q : items.toList[i]? = some v := by rw [Array.getElem?_toList]; exact hv
          rw [hit, List.getElem?_map] at q
          cases hq : ks[i]? with
          | none => rw [hq] at q; cases q
          | some p =>
            rw [hq] at q
            exact ⟨p, rfl, (Option.some.inj q).symm⟩
        have none_of : ∀ b, s.heap.objs.size ≤ b → s.heap.get? b = none := fun b hb => by
          cases q : s.heap.get? b with
          | none => rfl
          | some o => exact absurd (Nat.lt_of_lt_of_le (Heap.lt_size q) hb) (Nat.lt_irrefl _)
        refine set_update_tups ((Walks.tuple hh3 _ l hneI items).toS) s.heap.objs.size
          hSf ks hisz hfew hval s.heap hk (none_of _ (Nat.le_refl _)) (fun b hb => none_of b (by
            rw [List.mem_singleton.mp hb, Heap.size_push]
            exact Nat.le_succ _)) hu (items.size - 0) 0 _ (by omega) (Nat.zero_le _)
          ⟨⟨_, Heap.get?_push_size _ rfl, rfl, rfl⟩, (hl1.push _)⟩ (fun b o e => Heap.get?_push_of_some _ (Heap.get?_push_of_some _ e)) ?hS0 ?hR
        case hS0 =>
          have hget : ((s.heap.push { cls := .type "set", dict := none, data := .set #[] 0 (.fresh 0 0 (!w.params.followText "set-order")) }).push { cls := .type "tuple_iterator", data := .fields #[.ref l, .int 0 0] }).get? s.heap.objs.size
              = some { cls := .type "set", dict := none, data := .set #[] 0 (.fresh 0 0 (!w.params.followText "set-order")) } := Heap.get?_push_of_some _ hS
          exact ⟨[], #[], 0, _, setTR_fresh hget, Got.zero ks⟩
        case hR =>
          intro s' L es ep t hm hS' g' hkp
          obtain ⟨h', g2, d', tk', os'⟩ := s'
          have eg : g2 = s.gens := hm.gens
          have ed : d' = s.drawn := hm.drawn
          have eo : os' = s.os := hm.os
          subst eg; subst ed; subst eo
          show wpAny _ _ _ _ _ _
          refine wpAny_pure ?_
          show wpAny _ _ (ret Value.none) _ _ _
          rw [hisz] at g'
          exact wpAny_pure ⟨rfl, h', tk', L, es, ep, t, rfl, hS', g', hkp⟩

      · cases r₂ with
        | error e => exact hr₂
        | ok fl₂ =>
          cases fl₂ with
          | ret r =>
            obtain ⟨rfl, h', tk, L, es, ep, t, rfl, hS', g', hk'⟩ := hr₂
            repeat (any_goals (first | assumption | wp_step))
            exact h _ _ _ _ _ _ hS' g' hk'
          | _ => exact hr₂.elim
    | _ => exact hr.elim
end
end VS

set_option maxHeartbeats 4000000
namespace VS
open PySem PySem.Spec PyProof.Rows L2
section
variable {X : Cx}
def rSetOfTT (K : PySem.W.Frag) (P : Program) (w : World) : List V → Hp → VK → Prop := fun xs H Q => ∃ (l : Addr) (ks : List (Addr × List Int)), xs = [V.ref l] ∧ (SqT K H l (ks.map fun p => V.ref p.1) ∨ SqL K H l (ks.map fun p => V.ref p.1)) ∧ (∀ p ∈ ks, SqT K H p.1 (p.2.map V.int)) ∧ ks.length < 64 ∧
  ∀ a L, H a = none → (∀ p ∈ L, p ∈ ks) → (∀ p ∈ ks, p.2 ∈ L.map (·.2)) → Q (.ref a) (upd H a (SetTO P w a L))
theorem cr_setOfTT (hc : X.calm = true) (hu : X.A.units + 64 < cLine) : CallR X (.type "set") (rSetOfTT X.K X.prog X.w) := by
  intro pins s σ H xs us Q I r h
  obtain ⟨l, ks, rfl, hl, hk, hf, q⟩ := h
  rcases hl with hl | hl
  · rw [Vals.ref1 r]
    obtain ⟨its, rv, pl, hz⟩ := I.tuple hl
    have hn : H s.heap.objs.size = none := I.hok.fresh (Nat.le_refl _)
    refine call_set_tupsT (P := X.prog) (w := X.w) ks (I.ok.hd hc) (show s.heap.IsTuple l its.toArray from pl) (by simpa using refs_of_vals rv) (fun p hp => I.isT (hk p hp)) hf (by omega) fun h' tk L es ep t R g k => ?_
    refine ⟨.ref s.heap.objs.size, upd H s.heap.objs.size (SetTO X.prog X.w s.heap.objs.size L), I.laid (t' := tk) k (Nat.le_refl _) (setTO_new R.t0), rfl, q _ L hn (fun p hp => ?_) fun p hp => ?_⟩
    · exact List.mem_of_mem_take (g.sub p hp)
    · exact g.all p (by rw [List.take_length]; exact hp)
  · exact cr_setOfT hc hu pins s σ H _ us Q I r ⟨l, ks, rfl, hl, hk, hf, q⟩
end

def tupsOf : List D → Option (List (List Int))
  | [] => some []
  | .tup l :: r => match intsOf l, tupsOf r with
    | some k, some ks => some (k :: ks)
    | _, _ => none
  | _ :: _ => none
def tupI (k : List Int) : D := .tup (k.map .int)
theorem tupsOf_eq : ∀ {l : List D} {ks : List (List Int)}, tupsOf l = some ks → l = ks.map tupI
  | [], _, h => by cases h; rfl
  | d :: l, ks, h => by
    cases d with
    | tup m =>
      unfold tupsOf at h
      cases e1 : intsOf m with
      | none => rw [e1] at h; cases h
      | some k =>
        cases e2 : tupsOf l with
        | none => rw [e1, e2] at h; cases h
        | some r =>
          rw [e1, e2] at h
          cases h
          rw [tupsOf_eq e2, intsOf_eq e1]
          rfl
    | _ => cases h
def insU (x : List Int) : List (List Int) → List (List Int)
  | [] => [x]
  | y :: l => if TS.code 64 x < TS.code 64 y then x :: y :: l else if x = y then y :: l else y :: insU x l
def sortU (ks : List (List Int)) : List (List Int) := ks.foldr insU []
def keyOk (d : Nat) (k : List Int) : Bool := decide (k.length = d) && (decide (1 ≤ d) && k.all fun m => decide (0 ≤ m) && decide (m < 64))
def dOf : List (List Int) → Nat
  | [] => 1
  | k :: _ => k.length
def keysOk (ks : List (List Int)) : Bool := decide (ks.length < 64) && ks.all (keyOk (dOf ks))
/-- sorted(set(x)) -/
def sortSetD (d : D) : Option (List D) := match itemsD d with
  | some l => match tupsOf l with
    | some ks => if keysOk ks = true then some ((sortU ks).map tupI) else none
    | none => none
  | none => none
theorem mem_insU {x z : List Int} : ∀ {l : List (List Int)}, z ∈ insU x l ↔ z = x ∨ z ∈ l
  | [] => by simp [insU]
  | y :: l => by
    unfold insU
    split
    · simp
    · split
      · rename_i h; subst h; simp
      · simp only [List.mem_cons, mem_insU (l := l)]
        constructor
        · rintro (h | h | h)
          · exact .inr (.inl h)
          · exact .inl h
          · exact .inr (.inr h)
        · rintro (h | h | h)
          · exact .inr (.inl h)
          · exact .inl h
          · exact .inr (.inr h)
theorem mem_sortU {z : List Int} : ∀ {l : List (List Int)}, z ∈ sortU l ↔ z ∈ l
  | [] => by simp [sortU]
  | y :: l => by
    show z ∈ insU y (sortU l) ↔ _
    rw [mem_insU, mem_sortU, List.mem_cons]
theorem insU_sorted {x : List Int} (inj : ∀ y, TS.code 64 x = TS.code 64 y → y ∈ ([] : List (List Int)) ∨ True) : ∀ {l : List (List Int)}, (∀ y ∈ l, TS.code 64 x = TS.code 64 y → x = y) → l.Pairwise (fun a b => TS.code 64 a < TS.code 64 b) → (insU x l).Pairwise fun a b => TS.code 64 a < TS.code 64 b
  | [], _, _ => by simp [insU]
  | y :: l, hi, hp => by
    rw [List.pairwise_cons] at hp
    unfold insU
    split
    · rename_i h
      rw [List.pairwise_cons]
      refine ⟨fun z hz => ?_, List.pairwise_cons.mpr hp⟩
      rcases List.mem_cons.mp hz with e | hz
      · subst e; exact h
      · exact Int.lt_trans h (hp.1 z hz)
    · split
      · exact List.pairwise_cons.mpr hp
      · rename_i h1 h2
        rw [List.pairwise_cons]
        refine ⟨fun z hz => ?_, insU_sorted inj (fun z hz => hi z (List.mem_cons_of_mem _ hz)) hp.2⟩
        rcases mem_insU.mp hz with e | hz
        · subst e
          have : TS.code 64 z ≠ TS.code 64 y := fun e => h2 (hi y (List.mem_cons_self ..) e)
          omega
        · exact hp.1 z hz
theorem code_inj {B : Int} (hB : 0 < B) : ∀ {a b : List Int}, a.length = b.length → TS.Bd B a → TS.Bd B b → TS.code B a = TS.code B b → a = b
  | [], [], _, _, _, _ => rfl
  | [], _ :: _, h, _, _, _ => by simp at h
  | _ :: _, [], h, _, _, _ => by simp at h
  | x :: a, y :: b, h, ha, hb, e => by
    have hl : a.length = b.length := by simpa using h
    have c0 : ∀ {r : List Int}, TS.Bd B r → 0 ≤ TS.code B r ∧ TS.code B r < B ^ r.length := by
      intro r
      induction r with
      | nil => intro _; simp [TS.code]
      | cons m r ih =>
        intro hr
        have i := ih hr.tail
        have h0 := hr.head
        have p1 : (m + 1) * B ^ r.length ≤ B * B ^ r.length := Int.mul_le_mul_of_nonneg_right (by omega) (by omega)
        have p2 : 0 ≤ m * B ^ r.length := Int.mul_nonneg h0.1 (by omega)
        have p3 : (m + 1) * B ^ r.length = m * B ^ r.length + B ^ r.length := by rw [Int.add_mul, Int.one_mul]
        have p4 : B ^ (m :: r).length = B * B ^ r.length := by rw [List.length_cons, Int.pow_succ, Int.mul_comm]
        rw [p4]
        unfold TS.code
        omega
    have i1 := c0 ha.tail
    have i2 := c0 hb.tail
    unfold TS.code at e
    rw [hl] at e i1
    have hxy : x = y := by
      have g1 : ∀ {u v c d : Int} {P : Int}, 0 ≤ c → c < P → 0 ≤ d → d < P → u * P + c = v * P + d → ¬ u < v := by
        intro u v c d P h1 h2 h3 h4 h5 h6
        have : (u + 1) * P ≤ v * P := Int.mul_le_mul_of_nonneg_right (by omega) (by omega)
        rw [Int.add_mul, Int.one_mul] at this
        omega
      have n1 := g1 i1.1 i1.2 i2.1 i2.2 e
      have n2 := g1 i2.1 i2.2 i1.1 i1.2 e.symm
      omega
    subst hxy
    have e2 : TS.code B a = TS.code B b := by omega
    rw [code_inj hB hl ha.tail hb.tail e2]
theorem keyOk_bd {d : Nat} {k : List Int} (h : keyOk d k = true) : k.length = d ∧ 1 ≤ d ∧ TS.Bd 64 k := by
  unfold keyOk at h
  simp only [Bool.and_eq_true, decide_eq_true_eq, List.all_eq_true] at h
  exact ⟨h.1, h.2.1, fun m hm => h.2.2 m hm⟩
theorem sortU_sorted {d : Nat} : ∀ {ks : List (List Int)}, (∀ k ∈ ks, keyOk d k = true) → (sortU ks).Pairwise fun a b => TS.code 64 a < TS.code 64 b
  | [], _ => by simp [sortU]
  | k :: ks, h => by
    refine insU_sorted (fun _ _ => .inr trivial) (fun y hy e => ?_) (sortU_sorted fun z hz => h z (List.mem_cons_of_mem _ hz))
    have h1 := keyOk_bd (h k (List.mem_cons_self ..))
    have h2 := keyOk_bd (h y (List.mem_cons_of_mem _ (mem_sortU.mp hy)))
    exact code_inj (by decide) (h1.1.trans h2.1.symm) h1.2.2 h2.2.2 e
theorem sorted_eq : ∀ {l m : List (List Int)}, l.Pairwise (fun a b => TS.code 64 a < TS.code 64 b) → m.Pairwise (fun a b => TS.code 64 a < TS.code 64 b) → (∀ z, z ∈ l ↔ z ∈ m) → l = m
  | [], [], _, _, _ => rfl
  | [], y :: m, _, _, h => by have := (h y).mpr (List.mem_cons_self ..); cases this
  | x :: l, [], _, _, h => by have := (h x).mp (List.mem_cons_self ..); cases this
  | x :: l, y :: m, hl, hm, h => by
    rw [List.pairwise_cons] at hl hm
    have hxy : x = y := by
      rcases List.mem_cons.mp ((h x).mp (List.mem_cons_self ..)) with e | e
      · exact e
      · rcases List.mem_cons.mp ((h y).mpr (List.mem_cons_self ..)) with e2 | e2
        · exact e2.symm
        · have a1 := hm.1 x e
          have a2 := hl.1 y e2
          omega
    subst hxy
    rw [sorted_eq hl.2 hm.2 fun z => ⟨fun hz => ?_, fun hz => ?_⟩]
    · rcases List.mem_cons.mp ((h z).mp (List.mem_cons_of_mem _ hz)) with e | e
      · subst e; have := hl.1 z hz; omega
      · exact e
    · rcases List.mem_cons.mp ((h z).mpr (List.mem_cons_of_mem _ hz)) with e | e
      · subst e; have := hm.1 z hz; omega
      · exact e
theorem reps_tups {Z : Wd} {β : List Addr} {H : Hp} : ∀ {ks : List (List Int)} {vs : List V}, Reps Z β H vs (ks.map tupI) → ∃ kas : List (Addr × List Int), kas.map (·.2) = ks ∧ vs = (kas.map fun p => V.ref p.1) ∧ ∀ p ∈ kas, SqT Z.K H p.1 (p.2.map V.int)
  | [], _, .nil => ⟨[], rfl, rfl, fun _ h => by cases h⟩
  | k :: ks, _, .cons r t => by
    obtain ⟨kas, h1, h2, h3⟩ := reps_tups t
    cases r with
    | @tup a vs' l h g =>
      refine ⟨(a, k) :: kas, by simp [h1], by simp [h2], fun p hp => ?_⟩
      rcases List.mem_cons.mp hp with e | hp
      · subst e; rw [← g.ints]; exact h
      · exact h3 p hp
theorem reps_of_kas {Z : Wd} {β : List Addr} {H : Hp} : ∀ {kas : List (Addr × List Int)}, (∀ p ∈ kas, SqT Z.K H p.1 (p.2.map V.int)) → Reps Z β H (kas.map fun p => V.ref p.1) ((kas.map (·.2)).map tupI)
  | [], _ => .nil
  | p :: kas, h => .cons (.tup (h p (List.mem_cons_self ..)) (by
      show Reps Z β H (p.2.map V.int) (p.2.map D.int)
      generalize p.2 = k
      induction k with
      | nil => exact .nil
      | cons m k ih => exact .cons (.int m) ih)) (reps_of_kas fun q hq => h q (List.mem_cons_of_mem _ hq))
@[simp] def rSortSet (r : Env → Sto → Res D) : Env → Sto → Res (List D) := fun ρ S => (r ρ S).bind fun d S1 => optR (sortSetD d) S1
section
variable {X : Cx} {F : Fr} {W : WX} {e : Expr} {r : Env → Sto → Res D} {p p2 pos pos2 : Pos}
theorem ve_sortset (hc : X.calm = true) (hu : X.A.units + 64 < cLine) (he : VX X F W e r) (hm : X.mg "sorted" = none) (hm2 : X.mg "set" = none) (hg : Gl X "sorted" := by rfl) (hg2 : Gl X "set" := by rfl)
    (h1 : starEach [e] X.env = (false, eval e X.env) :: starEach [] X.env := by rfl) (h2 : (backTo pos2 (starEach [] X.env)).any (·.1) = false := by rfl)
    (h3 : starEach [Expr.Call (.Name "set" p2) [e] [] pos2] X.env = (false, eval (.Call (.Name "set" p2) [e] [] pos2) X.env) :: starEach [] X.env := by rfl) (h4 : (backTo pos (starEach [] X.env)).any (·.1) = false := by rfl) :
    VO X F W (.Call (.Name "sorted" p) [.Call (.Name "set" p2) [e] [] pos2] [] pos) (rSortSet r) :=
  pe_imp (pe_callB (cr_sortedT hc) hg hm PyProof.Rows.boot_sorted (pa_cons (pe_callTy (cr_setOfTT hc hu) hg2 hm2 PyProof.Rows.boot_set (pa_cons he pa_nil h1) (by decide) (by decide) h1 h2) pa_nil h3) (by decide) (by decide) h3 h4) fun σ H Q q => by
    obtain ⟨ρ, S, β, hr, hp⟩ := q
    refine tG_bind anti_O hr hp fun x H1 d1 S1 β1 r1 e1 c1 p1 => ?_
    unfold sortSetD at p1
    have main : ∀ (a : Addr) (vs : List V) (l : List D), x = .ref a → (SqT X.K H1 a vs ∨ SqL X.K H1 a vs) → Reps (zX X F) β1 H1 vs l → Post (zX X F) F W ρ σ β1 H1 (RO (zX X F)) (optR (match tupsOf l with | some ks => if keysOk ks = true then some ((sortU ks).map tupI) else none | none => none) S1) Q →
        tCB (rSetOfTT X.K X.prog X.w) (tCons (fun σ H Q => Q x H) tNil) σ H1 fun y H2 => tNil σ H2 fun zs H3 => rSortedT X.K X.prog X.w (y :: zs) H3 Q := by
      intro a vs l ex hs g p1
      cases et : tupsOf l with
      | none => rw [et] at p1; exact p1.elim
      | some ks =>
        rw [et] at p1
        have p1 : Post (zX X F) F W ρ σ β1 H1 (RO (zX X F)) (optR (if keysOk ks = true then some ((sortU ks).map tupI) else none) S1) Q := p1
        split at p1
        · rename_i hk
          unfold keysOk at hk
          simp only [Bool.and_eq_true, decide_eq_true_eq, List.all_eq_true] at hk
          rw [tupsOf_eq et] at g
          obtain ⟨kas, k1, k2, k3⟩ := reps_tups g
          subst k2
          refine ⟨a, kas, by rw [ex], hs, k3, by rw [← k1, List.length_map] at hk; exact hk.1, fun b L nb sub all => ?_⟩
          have hk2 : ∀ q ∈ L, keyOk (dOf ks) q.2 = true := fun q hq => hk.2 _ (by rw [← k1]; exact List.mem_map_of_mem (sub q hq))
          have kL : ∀ q ∈ L, SqT X.K (upd H1 b (SetTO X.prog X.w b L)) q.1 (q.2.map V.int) := fun q hq => Ev.sqT (β := []) (β' := []) (.of (.new nb)) (k3 q (sub q hq))
          have hd1 : 1 ≤ (dOf ks) := by
            cases ks with
            | nil => exact Nat.le_refl _
            | cons k ks =>
              have z := keyOk_bd (hk.2 k (List.mem_cons_self ..))
              exact z.2.1
          refine ⟨b, L, (dOf ks), 64, rfl, upd_same, kL, hd1, fun q hq => ⟨(keyOk_bd (hk2 q hq)).1, (keyOk_bd (hk2 q hq)).2.2⟩, fun L' c pm nd hl pw nc => ?_⟩
          have subs : ∀ q ∈ L', q ∈ L := fun q hq => pm.mem_iff.mp hq
          have eqs : L'.map (·.2) = sortU ks := by
            refine sorted_eq ?_ (sortU_sorted fun k hk' => hk.2 k hk') fun z => ?_
            · rw [List.pairwise_map]
              have both := (List.pairwise_map.mp nd).and pw
              refine both.imp_of_mem fun {u v} hu hv ⟨z1, z2⟩ => ?_
              have b1 := keyOk_bd (hk2 u (subs u hu))
              have b2 := keyOk_bd (hk2 v (subs v hv))
              have : TS.code 64 u.2 ≠ TS.code 64 v.2 := fun e => z1 (code_inj (by decide) (b1.1.trans b2.1.symm) b1.2.2 b2.2.2 e)
              omega
            · rw [mem_sortU, ← k1]
              constructor
              · intro hz
                obtain ⟨q, hq, e⟩ := List.mem_map.mp hz
                exact List.mem_map.mpr ⟨q, sub q (subs q hq), e⟩
              · intro hz
                obtain ⟨q, hq, e⟩ := List.mem_map.mp hz
                obtain ⟨q', hq', e'⟩ := List.mem_map.mp (all q hq)
                exact List.mem_map.mpr ⟨q', pm.mem_iff.mpr hq', e'.trans e⟩
          have s2 : Same H1 (upd (upd H1 b (SetTO X.prog X.w b L)) c (.lst (L'.map fun q => V.ref q.1))) := (Same.new nb).trans (.new nc)
          have nc1 : H1 c = none := by
            by_cases hb : c = b
            · rw [hb]; exact nb
            · rw [upd_ne hb] at nc; exact nc
          refine tG_end r1 p1 s2 ⟨c, _, rfl, nc1, upd_same, ?_, r1.sto.notin nc1⟩
          rw [← eqs]
          exact reps_of_kas fun q hq => Ev.sqT (β := []) (β' := []) (.of (.new nc)) (kL q (subs q hq))
        · exact p1.elim
    cases d1 with
    | tup l =>
      cases c1.rep (fun _ z => by cases z) with
      | @tup a vs l h g => exact main a vs l rfl (.inl h) g p1
    | lst l =>
      obtain ⟨a, vs, rfl, g, h⟩ := c1.ls.sq
      exact main a vs l rfl (.inr h) g p1
    | _ => exact p1.elim
end
end VS

set_option maxHeartbeats 4000000
namespace VS
open PySem PySem.Spec PyProof.Rows L2

def lcL2 (g : D → Env → Option Env) (t : Env → Sto → Res Bool) (ri1 : Env → Sto → Res (List D)) (vs1 : List Nat) (g1 : D → Env → Option Env) (t1 : Env → Sto → Res Bool) (e : Env → Sto → Res D) (ρ : Env) : List D → List D → Sto → Res (List D)
  | [], acc, S => .ok acc S
  | d :: r, acc, S => match g d ρ with
    | none => .stuck
    | some ρ1 => ((t ρ1 S).nox).bind fun b S1 => if b = true then ((ri1 ρ1 S1).nox).bind fun l1 S2 => (lcL g1 t1 e (wipeE ρ1 vs1) l1 acc S2).bind fun acc2 S3 => lcL2 g t ri1 vs1 g1 t1 e ρ r acc2 S3 else lcL2 g t ri1 vs1 g1 t1 e ρ r acc S1
@[simp] def rLc2 (ri : Env → Sto → Res (List D)) (vs : List Nat) (g : D → Env → Option Env) (t : Env → Sto → Res Bool) (ri1 : Env → Sto → Res (List D)) (vs1 : List Nat) (g1 : D → Env → Option Env) (t1 : Env → Sto → Res Bool) (e : Env → Sto → Res D) : Env → Sto → Res (List D) := fun ρ S => (ri ρ S).bind fun l S1 => lcL2 g t ri1 vs1 g1 t1 e (wipeE ρ vs) l [] S1
section
variable {X : Cx} {F : Fr} {W : WX} {tg it elt tg1 it1 : Expr}
theorem wipe_wipe (σ : L2.St) (vs : List Nat) : L2.wipe (L2.wipe σ vs) vs = L2.wipe σ vs := by
  apply List.ext_getElem?
  intro j
  rw [wipe_get, wipe_get]
  by_cases hj : j ∈ vs
  · rw [if_pos hj, if_pos hj]
    cases σ[j]? <;> rfl
  · rw [if_neg hj]
/-- one more item -/
theorem app_step {β4 : List Addr} {H1 H4 : Hp} {β1 : List Addr} {S3 : Sto} {Da : Addr} {ws : List V} {acc : List D} {v : V} {y : D} {ρ : Env} {σ : L2.St} (r5 : Rel (zX X F) F ρ S3 β4 σ H4) (nD : H1 Da = none) (d4 : H4 Da = some (.lst ws)) (w4 : Reps (zX X F) β4 H4 ws acc) (n4 : Da ∉ β4) (E14 : Ev β1 H1 β4 H4) (rv : Rep (zX X F) β4 H4 v y) :
    StR (zX X F) β4 S3 (upd H4 Da (.lst (ws ++ [v]))) ∧ LamX.Tabs F.T (upd H4 Da (.lst (ws ++ [v]))) ∧ Ev β1 H1 β4 (upd H4 Da (.lst (ws ++ [v]))) ∧ Reps (zX X F) β4 (upd H4 Da (.lst (ws ++ [v]))) (ws ++ [v]) (acc ++ [y]) ∧ Sv β4 H4 β4 (upd H4 Da (.lst (ws ++ [v]))) := by
  have S4 : Sv β4 H4 β4 (upd H4 Da (.lst (ws ++ [v]))) := sv_upd d4
  refine ⟨⟨r5.sto.len, r5.sto.nd, fun n so q => ?_⟩, fun p hp => ?_, ⟨E14.pre, E14.fresh, fun b u k c => by rw [upd_ne (fun z => by rw [z, nD] at k; cases k)]; exact E14.keep b u k c, fun b k => ?_⟩, (w4.append (.cons rv .nil)).monoS S4, S4⟩
  · obtain ⟨b, h1, h2⟩ := r5.sto.at_ n so q
    have nba : b ≠ Da := fun c => n4 (c ▸ List.mem_of_getElem? h1)
    refine ⟨b, h1, ?_⟩
    cases so with
    | cell l => obtain ⟨vs', g1, g2⟩ := h2; exact ⟨vs', by rw [upd_ne nba]; exact g1, g2.monoS S4⟩
    | ins C fs =>
      obtain ⟨Ca, dx, fvs, g1, g2, g3⟩ := h2
      exact ⟨Ca, dx, fvs, g1, by rw [upd_ne nba]; exact g2, Paired.mapP g3 fun p q r => ⟨r.1, r.2.monoS S4⟩⟩
  · obtain ⟨ps, q1, q2, q3⟩ := r5.tab p hp
    refine ⟨ps, by rw [upd_ne (fun z => by rw [z, d4] at q1; cases q1)]; exact q1, q2, fun pos cv hc => ?_⟩
    obtain ⟨c, e1, e2⟩ := q3 pos cv hc
    exact ⟨c, e1, by rw [upd_ne (fun z => by rw [z, d4] at e2; unfold LamX.CodeO at e2; cases e2)]; exact e2⟩
  · by_cases hb : b = Da
    · rw [hb]; exact nD
    · rw [upd_ne hb] at k; exact E14.dom b k
theorem Rel.updNo {ρ : Env} {S : Sto} {β : List Addr} {σ : L2.St} {H : Hp} {a : Addr} {vs ws : List V} (h : Rel (zX X F) F ρ S β σ H) (ns : ∀ (i : Nat) (s : Sl), ρ[i]? = some s → isOwn s = true → σ[i]? ≠ some (some (.ref a))) (ha : H a = some (.lst vs)) (nb : a ∉ β) (n0 : F.H0 a = none) :
    Rel (zX X F) F ρ S β σ (upd H a (.lst ws)) := by
  have sv : Sv β H β (upd H a (.lst ws)) := sv_upd ha
  refine ⟨⟨h.sto.len, h.sto.nd, fun n so q => ?_⟩, ⟨h.ev.pre, h.ev.fresh, fun b u k c => ?_, fun b k => ?_⟩, fun p hp => ?_, h.len, fun j sl q => ?_, h.own⟩
  · obtain ⟨b, h1, h2⟩ := h.sto.at_ n so q
    have nba : b ≠ a := fun c => nb (c ▸ List.mem_of_getElem? h1)
    refine ⟨b, h1, ?_⟩
    cases so with
    | cell l => obtain ⟨vs, g1, g2⟩ := h2; exact ⟨vs, by rw [upd_ne nba]; exact g1, g2.monoS sv⟩
    | ins C fs =>
      obtain ⟨Ca, dx, fvs, g1, g2, g3⟩ := h2
      exact ⟨Ca, dx, fvs, g1, by rw [upd_ne nba]; exact g2, Paired.mapP g3 fun p q r => ⟨r.1, r.2.monoS sv⟩⟩
  · rw [upd_ne (fun z => by rw [z, n0] at k; cases k)]; exact h.ev.keep b u k c
  · by_cases hb : b = a
    · rw [hb, upd_same] at k; cases k
    · rw [upd_ne hb] at k; exact h.ev.dom b k
  · obtain ⟨ps, q1, q2, q3⟩ := h.tab p hp
    refine ⟨ps, by rw [upd_ne (fun z => by rw [z, ha] at q1; cases q1)]; exact q1, q2, fun pos cv hc => ?_⟩
    obtain ⟨c, e1, e2⟩ := q3 pos cv hc
    exact ⟨c, e1, by rw [upd_ne (fun z => by rw [z, ha] at e2; unfold LamX.CodeO at e2; cases e2)]; exact e2⟩
  · have g := h.slot j sl q
    cases sl with
    | un => trivial
    | val d => obtain ⟨x, h1, h2⟩ := g; exact ⟨x, h1, h2.monoS sv⟩
    | od k => exact g
    | ol l' =>
      obtain ⟨b, vs', h1, h2, h3, h4⟩ := g
      exact ⟨b, vs', h1, by rw [upd_ne (fun z => ns j _ q rfl (by rw [h1, z]))]; exact h2, h3.monoS sv, h4⟩
/-- a target sets values alone -/
def GKeep (g : D → Env → Option Env) : Prop := ∀ d ρ ρ', g d ρ = some ρ' → ∀ (j : Nat) (s : Sl), ρ'[j]? = some s → isOwn s = true → ρ[j]? = some s
def GKeeps (g : List D → Env → Option Env) : Prop := ∀ d ρ ρ', g d ρ = some ρ' → ∀ (j : Nat) (s : Sl), ρ'[j]? = some s → isOwn s = true → ρ[j]? = some s
theorem gkeep_name {i : Nat} : GKeep (gN i) := fun d ρ ρ' h j s e o => by
  unfold gN at h
  split at h
  · rename_i hi
    cases h
    by_cases hj : i = j
    · subst hj
      rw [List.getElem?_set_self hi] at e
      cases e
      cases o
    · rw [List.getElem?_set_ne hj] at e; exact e
  · cases h
theorem gkeeps_nil : GKeeps gsNil := fun d ρ ρ' h j s e o => by
  unfold gsNil at h
  split at h
  · cases h; exact e
  · cases h
theorem gkeeps_cons {g : D → Env → Option Env} {gs : List D → Env → Option Env} (h1 : GKeep g) (h2 : GKeeps gs) : GKeeps (gsCons g gs) := fun d ρ ρ' h j s e o => by
  unfold gsCons at h
  split at h
  · rename_i d0 r
    cases eg : g d0 ρ with
    | none => rw [eg] at h; cases h
    | some ρ1 =>
      rw [eg] at h
      exact h1 _ _ _ eg j s (h2 _ _ _ h j s e o) o
  · cases h
theorem gkeep_tup {gs : List D → Env → Option Env} (h1 : GKeeps gs) : GKeep (gT gs) := fun d ρ ρ' h j s e o => by
  unfold gT at h
  split at h
  · exact h1 _ _ _ h j s e o
  · cases h
theorem wipeE_own {ρ : Env} {j : Nat} {s : Sl} : ∀ {vs : List Nat}, (wipeE ρ vs)[j]? = some s → isOwn s = true → j ∉ vs ∧ ρ[j]? = some s
  | [], h, _ => ⟨by simp, h⟩
  | v :: vs, h, o => by
    have h : ((wipeE ρ vs).set v .un)[j]? = some s := h
    by_cases hj : v = j
    · subst hj
      have hl : v < (wipeE ρ vs).length := by
        have := (List.getElem?_eq_some_iff.mp h).1
        simpa using this
      rw [List.getElem?_set_self hl] at h
      cases h
      cases o
    · rw [List.getElem?_set_ne hj] at h
      obtain ⟨h1, h2⟩ := wipeE_own h o
      exact ⟨by simp; exact ⟨fun z => hj z.symm, h1⟩, h2⟩
theorem lc2_read {ri ri1 : Env → Sto → Res (List D)} {vs vs1 ix ix1 : List Nat} {g g1 : D → Env → Option Env} {t t1 : Env → Sto → Res Bool} {e : Env → Sto → Res D} (gk : GKeep g) (hix : ∀ i ∈ ix, i ∈ vs) (hix1 : ∀ i ∈ ix1, i ∈ vs1) {σ : L2.St} {H : Hp} {Q : VK} (q : tG (zX X F) F W (RO (zX X F)) (rLc2 ri vs g t ri1 vs1 g1 t1 e) σ H Q) :
    tLc2 (tG (zX X F) F W (RIe (zX X F)) ri) (tGt (zX X F) F ix g) (tG (zX X F) F W0 RT t) (tG (zX X F) F W0 (RI (zX X F)) ri1) (tGt (zX X F) F ix1 g1) (tG (zX X F) F W0 RT t1) (tG (zX X F) F W0 (RF (zX X F)) e) vs vs1 σ H Q := by
  obtain ⟨ρ, S, β, hr, hp⟩ := q
  refine tG_bind anti_O hr hp fun J H1 l S1 β1 r1 e1 c1 p1 => ?_
  obtain ⟨G, I, g0, st⟩ := c1
  intro Da nD
  have nDH : H Da = none := e1.dom Da nD
  have ev0 : ∀ {x : List V}, Ev β1 H1 β1 (upd H1 Da (.lst x)) := fun {x} => .of (.new nD)
  refine ⟨fun i m H' => m = l.length - i ∧ i ≤ l.length ∧ ∃ S' β' ws acc, StR (zX X F) β' S' H' ∧ LamX.Tabs F.T H' ∧ Ev β1 H1 β' H' ∧ H' Da = some (.lst ws) ∧ Reps (zX X F) β' H' ws acc ∧ Da ∉ β' ∧ G β' H' ∧ Post (zX X F) F W ρ σ β1 H1 (RO (zX X F)) (lcL2 g t ri1 vs1 g1 t1 e (wipeE ρ vs) (l.drop i) acc S') Q,
    ⟨l.length, rfl, Nat.zero_le _, S1, β1, [], [], r1.sto.same (.new nD), r1.tab.ext (Same.new nD), ev0, upd_same, .nil, r1.sto.notin nD, st _ _ _ _ g0 ev0, p1⟩, ?_⟩
  rintro i m H' ⟨rfl, hil, S', β', ws, acc, a1, a2, a3, a4, a5, a6, a7, hp⟩
  by_cases hlt : i < l.length
  · let Nx : Hp → Prop := fun H' => i + 1 ≤ l.length ∧ ∃ S' β' ws acc, StR (zX X F) β' S' H' ∧ LamX.Tabs F.T H' ∧ Ev β1 H1 β' H' ∧ H' Da = some (.lst ws) ∧ Reps (zX X F) β' H' ws acc ∧ Da ∉ β' ∧ G β' H' ∧ Post (zX X F) F W ρ σ β1 H1 (RO (zX X F)) (lcL2 g t ri1 vs1 g1 t1 e (wipeE ρ vs) (l.drop (i + 1)) acc S') Q
    refine .inr ⟨I.go i β' H' a7 hlt, Nx,
      fun H' ⟨h1, q⟩ => ⟨l.length - (i + 1), by omega, rfl, h1, q⟩, fun x H2 y => ?_⟩
    obtain ⟨sm, rx⟩ := I.yld i β' H' x H2 a7 y l[i] (List.getElem?_eq_getElem hlt)
    rw [List.drop_eq_getElem_cons hlt] at hp
    have hp : Post (zX X F) F W ρ σ β1 H1 (RO (zX X F)) (match g l[i] (wipeE ρ vs) with
      | none => .stuck
      | some ρ1 => ((t ρ1 S').nox).bind fun b S1 => if b = true then ((ri1 ρ1 S1).nox).bind fun l1 S2 => (lcL g1 t1 e (wipeE ρ1 vs1) l1 acc S2).bind fun acc2 S3 => lcL2 g t ri1 vs1 g1 t1 e (wipeE ρ vs) (l.drop (i + 1)) acc2 S3 else lcL2 g t ri1 vs1 g1 t1 e (wipeE ρ vs) (l.drop (i + 1)) acc S1) Q := hp
    cases eg : g l[i] (wipeE ρ vs) with
    | none => rw [eg] at hp; exact hp.elim
    | some ρ1 =>
      rw [eg] at hp
      have r2 : Rel (zX X F) F (wipeE ρ vs) S' β' (L2.wipe σ vs) H2 := ((r1.step a1 a2 a3).wipe vs).same sm
      have E2 : Ev β' H' β' H2 := .of sm
      refine ⟨wipeE ρ vs, S', β', l[i], r2, rx, ρ1, eg, fun σ2 r3 bt => ⟨(bt vs hix).trans (wipe_wipe σ vs), ?_⟩⟩
      have ns : ∀ (j : Nat) (s : Sl), ρ1[j]? = some s → isOwn s = true → σ2[j]? ≠ some (some (.ref Da)) := fun j s q1 q2 q3 => by
        obtain ⟨z1, z2⟩ := wipeE_own (gk _ _ _ eg j s q1 q2) q2
        have z3 : (L2.wipe σ2 vs)[j]? = (L2.wipe (L2.wipe σ vs) vs)[j]? := by rw [bt vs hix]
        rw [wipe_wipe, wipe_get, wipe_get, if_neg z1, if_neg z1, q3] at z3
        obtain ⟨ys, z⟩ := r1.ownAt z2 q2 z3.symm
        rw [nD] at z; cases z
      have hp : Post (zX X F) F W ρ σ β1 H1 (RO (zX X F)) (((t ρ1 S').nox).bind fun b S1 => if b = true then ((ri1 ρ1 S1).nox).bind fun l1 S2 => (lcL g1 t1 e (wipeE ρ1 vs1) l1 acc S2).bind fun acc2 S3 => lcL2 g t ri1 vs1 g1 t1 e (wipeE ρ vs) (l.drop (i + 1)) acc2 S3 else lcL2 g t ri1 vs1 g1 t1 e (wipeE ρ vs) (l.drop (i + 1)) acc S1) Q := hp
      refine ⟨ρ1, S', β', r3, ?_⟩
      cases et : t ρ1 S' with
      | exc x S2 => rw [et] at hp; exact hp.elim
      | stuck => rw [et] at hp; exact hp.elim
      | ok b S2 =>
        rw [et] at hp
        have hp : Post (zX X F) F W ρ σ β1 H1 (RO (zX X F)) (if b = true then ((ri1 ρ1 S2).nox).bind fun l1 S2 => (lcL g1 t1 e (wipeE ρ1 vs1) l1 acc S2).bind fun acc2 S3 => lcL2 g t ri1 vs1 g1 t1 e (wipeE ρ vs) (l.drop (i + 1)) acc2 S3 else lcL2 g t ri1 vs1 g1 t1 e (wipeE ρ vs) (l.drop (i + 1)) acc S2) Q := hp
        intro b' H3 β3 r4 E3 eb
        have eb : b' = b := eb
        subst eb
        have E13 : Ev β1 H1 β3 H3 := (a3.trans E2).trans E3
        have d3 : H3 Da = some (.lst ws) := E3.keep _ _ (sm _ _ a4) (.inr ⟨a6, rfl⟩)
        have w3 : Reps (zX X F) β3 H3 ws acc := (a5.mono E2).mono E3
        have n3 : Da ∉ β3 := E3.notin (sm _ _ a4) a6
        have g3 : G β3 H3 := st _ _ _ _ (st _ _ _ _ a7 E2) E3
        cases b' with
        | false => exact ⟨hlt, S2, β3, ws, acc, r4.sto, r4.tab, E13, d3, w3, n3, g3, hp⟩
        | true =>
          have hp : Post (zX X F) F W ρ σ β1 H1 (RO (zX X F)) (((ri1 ρ1 S2).nox).bind fun l1 S2 => (lcL g1 t1 e (wipeE ρ1 vs1) l1 acc S2).bind fun acc2 S3 => lcL2 g t ri1 vs1 g1 t1 e (wipeE ρ vs) (l.drop (i + 1)) acc2 S3) Q := hp
          refine ⟨ρ1, S2, β3, r4, ?_⟩
          cases ee : ri1 ρ1 S2 with
          | exc x S2 => rw [ee] at hp; exact hp.elim
          | stuck => rw [ee] at hp; exact hp.elim
          | ok l1 S3 =>
            rw [ee] at hp
            have hp : Post (zX X F) F W ρ σ β1 H1 (RO (zX X F)) ((lcL g1 t1 e (wipeE ρ1 vs1) l1 acc S3).bind fun acc2 S3 => lcL2 g t ri1 vs1 g1 t1 e (wipeE ρ vs) (l.drop (i + 1)) acc2 S3) Q := hp
            intro J1 H4 β4 r5 E4 cJ
            obtain ⟨G1, I1, g01, st1⟩ := cJ
            have d4 : H4 Da = some (.lst ws) := E4.keep _ _ d3 (.inr ⟨n3, rfl⟩)
            have n4 : Da ∉ β4 := E4.notin d3 n3
            have g4 : G β4 H4 := st _ _ _ _ g3 E4
            refine ⟨fun j k H' => k = l1.length - j ∧ j ≤ l1.length ∧ ∃ S' β' ws acc, Rel (zX X F) F ρ1 S' β' σ2 H' ∧ Ev β1 H1 β' H' ∧ H' Da = some (.lst ws) ∧ Reps (zX X F) β' H' ws acc ∧ Da ∉ β' ∧ G β' H' ∧ G1 β' H' ∧ Post (zX X F) F W ρ σ β1 H1 (RO (zX X F)) ((lcL g1 t1 e (wipeE ρ1 vs1) (l1.drop j) acc S').bind fun acc2 S3 => lcL2 g t ri1 vs1 g1 t1 e (wipeE ρ vs) (l.drop (i + 1)) acc2 S3) Q,
              ⟨l1.length, rfl, Nat.zero_le _, S3, β4, ws, acc, r5, E13.trans E4, d4, w3.mono E4, n4, g4, g01, hp⟩, ?_⟩
            rintro j k H5 ⟨rfl, hjl, S5, β5, ws5, acc5, b1, b2, b3, b4, b5, b6, b7, hp⟩
            by_cases hlt1 : j < l1.length
            · refine .inr ⟨I1.go j β5 H5 b7 hlt1, fun H' => j + 1 ≤ l1.length ∧ ∃ S' β' ws acc, Rel (zX X F) F ρ1 S' β' σ2 H' ∧ Ev β1 H1 β' H' ∧ H' Da = some (.lst ws) ∧ Reps (zX X F) β' H' ws acc ∧ Da ∉ β' ∧ G β' H' ∧ G1 β' H' ∧ Post (zX X F) F W ρ σ β1 H1 (RO (zX X F)) ((lcL g1 t1 e (wipeE ρ1 vs1) (l1.drop (j + 1)) acc S').bind fun acc2 S3 => lcL2 g t ri1 vs1 g1 t1 e (wipeE ρ vs) (l.drop (i + 1)) acc2 S3) Q,
                fun H' ⟨h1, q⟩ => ⟨l1.length - (j + 1), by omega, rfl, h1, q⟩, fun x H6 y => ?_⟩
              obtain ⟨sm6, rx6⟩ := I1.yld j β5 H5 x H6 b7 y l1[j] (List.getElem?_eq_getElem hlt1)
              rw [List.drop_eq_getElem_cons hlt1] at hp
              have hp : Post (zX X F) F W ρ σ β1 H1 (RO (zX X F)) (Res.bind (match g1 l1[j] (wipeE ρ1 vs1) with
                | none => .stuck
                | some ρ6 => ((t1 ρ6 S5).nox).bind fun b S1 => if b = true then ((e ρ6 S1).nox).bind fun y S2 => if acc5.length < lim then lcL g1 t1 e (wipeE ρ1 vs1) (l1.drop (j + 1)) (acc5 ++ [y]) S2 else .stuck else lcL g1 t1 e (wipeE ρ1 vs1) (l1.drop (j + 1)) acc5 S1) fun acc2 S3 => lcL2 g t ri1 vs1 g1 t1 e (wipeE ρ vs) (l.drop (i + 1)) acc2 S3) Q := hp
              cases eg1 : g1 l1[j] (wipeE ρ1 vs1) with
              | none => rw [eg1] at hp; exact hp.elim
              | some ρ6 =>
                rw [eg1] at hp
                have hp : Post (zX X F) F W ρ σ β1 H1 (RO (zX X F)) (Res.bind (((t1 ρ6 S5).nox).bind fun b S1 => if b = true then ((e ρ6 S1).nox).bind fun y S2 => if acc5.length < lim then lcL g1 t1 e (wipeE ρ1 vs1) (l1.drop (j + 1)) (acc5 ++ [y]) S2 else .stuck else lcL g1 t1 e (wipeE ρ1 vs1) (l1.drop (j + 1)) acc5 S1) fun acc2 S3 => lcL2 g t ri1 vs1 g1 t1 e (wipeE ρ vs) (l.drop (i + 1)) acc2 S3) Q := hp
                have E6 : Ev β5 H5 β5 H6 := .of sm6
                refine ⟨wipeE ρ1 vs1, S5, β5, l1[j], (b1.wipe vs1).same sm6, rx6, ρ6, eg1, fun σ6 r6 bt6 => ⟨(bt6 vs1 hix1).trans (wipe_wipe σ2 vs1), ?_⟩⟩
                refine ⟨ρ6, S5, β5, r6, ?_⟩
                have d6 : H6 Da = some (.lst ws5) := sm6 _ _ b3
                cases et6 : t1 ρ6 S5 with
                | exc x S2 => rw [et6] at hp; exact hp.elim
                | stuck => rw [et6] at hp; exact hp.elim
                | ok c6 S6 =>
                  rw [et6] at hp
                  have hp : Post (zX X F) F W ρ σ β1 H1 (RO (zX X F)) (Res.bind (if c6 = true then ((e ρ6 S6).nox).bind fun y S2 => if acc5.length < lim then lcL g1 t1 e (wipeE ρ1 vs1) (l1.drop (j + 1)) (acc5 ++ [y]) S2 else .stuck else lcL g1 t1 e (wipeE ρ1 vs1) (l1.drop (j + 1)) acc5 S6) fun acc2 S3 => lcL2 g t ri1 vs1 g1 t1 e (wipeE ρ vs) (l.drop (i + 1)) acc2 S3) Q := hp
                  intro b' H7 β7 r7 E7 eb
                  have eb : b' = c6 := eb
                  subst eb
                  have E17 : Ev β1 H1 β7 H7 := (b2.trans E6).trans E7
                  have d7 : H7 Da = some (.lst ws5) := E7.keep _ _ d6 (.inr ⟨b5, rfl⟩)
                  have w7 : Reps (zX X F) β7 H7 ws5 acc5 := (b4.mono E6).mono E7
                  have n7 : Da ∉ β7 := E7.notin d6 b5
                  have g7 : G β7 H7 := st _ _ _ _ (st _ _ _ _ b6 E6) E7
                  have g17 : G1 β7 H7 := st1 _ _ _ _ (st1 _ _ _ _ b7 E6.sv) E7.sv
                  have rl7 : Rel (zX X F) F ρ1 S6 β7 σ2 H7 := b1.step r7.sto r7.tab (E6.trans E7)
                  cases b' with
                  | false => exact ⟨hlt1, S6, β7, ws5, acc5, rl7, E17, d7, w7, n7, g7, g17, hp⟩
                  | true =>
                    have hp : Post (zX X F) F W ρ σ β1 H1 (RO (zX X F)) (Res.bind (((e ρ6 S6).nox).bind fun y S2 => if acc5.length < lim then lcL g1 t1 e (wipeE ρ1 vs1) (l1.drop (j + 1)) (acc5 ++ [y]) S2 else .stuck) fun acc2 S3 => lcL2 g t ri1 vs1 g1 t1 e (wipeE ρ vs) (l.drop (i + 1)) acc2 S3) Q := hp
                    refine ⟨ρ6, S6, β7, r7, ?_⟩
                    cases ee6 : e ρ6 S6 with
                    | exc x S2 => rw [ee6] at hp; exact hp.elim
                    | stuck => rw [ee6] at hp; exact hp.elim
                    | ok y8 S8 =>
                      rw [ee6] at hp
                      have hp : Post (zX X F) F W ρ σ β1 H1 (RO (zX X F)) (Res.bind (if acc5.length < lim then lcL g1 t1 e (wipeE ρ1 vs1) (l1.drop (j + 1)) (acc5 ++ [y8]) S8 else .stuck) fun acc2 S3 => lcL2 g t ri1 vs1 g1 t1 e (wipeE ρ vs) (l.drop (i + 1)) acc2 S3) Q := hp
                      split at hp
                      · rename_i hz
                        intro v H8 β8 r8 E8 rv
                        have d8 : H8 Da = some (.lst ws5) := E8.keep _ _ d7 (.inr ⟨n7, rfl⟩)
                        have w8 : Reps (zX X F) β8 H8 ws5 acc5 := w7.mono E8
                        have n8 : Da ∉ β8 := E8.notin d7 n7
                        obtain ⟨k1, k2, k3, k4, k5⟩ := app_step r8 nD d8 w8 n8 (E17.trans E8) rv
                        have nD5 : ∀ {x : Addr} {o : HO}, x = Da → H1 x = some o → False := fun q k => by rw [q, nD] at k; cases k
                        refine ⟨ws5, d8, by rw [w8.length]; exact Nat.lt_of_lt_of_le hz lim_le, hlt1, S8, β8, ws5 ++ [v], acc5 ++ [y8], ?_, k3, upd_same, k4, n8, ?_, ?_, hp⟩
                        · exact (b1.step r8.sto r8.tab (E6.trans (E7.trans E8))).updNo ns d8 n8 (r1.ev.dom Da nD)
                        · exact st _ _ _ _ g0 k3
                        · exact st1 _ _ _ _ g17 (E8.sv.trans k5)
                      · exact hp.elim
            · have ej : j = l1.length := by omega
              subst ej
              rw [List.drop_length] at hp
              exact .inl ⟨I1.stop _ β5 H5 b7 (Nat.le_refl _), hlt, S5, β5, ws5, acc5, b1.sto, b1.tab, b2, b3, b4, b5, b6, hp⟩
  · have e : i = l.length := by omega
    subst e
    rw [List.drop_length] at hp
    exact .inl ⟨I.stop _ β' H' a7 (Nat.le_refl _), hp (.ref Da) H' β' (r1.step a1 a2 a3) a3 ⟨Da, ws, rfl, nD, a4, a5, a6⟩⟩
theorem ve_lc2 {ifs ifs1 : List Expr} {scope : Scope} {own : List (Str × Nat)} {vs1 : List Nat} {pos : Pos} {ri ri1 : Env → Sto → Res (List D)} {ix ix1 : List Nat} {g g1 : D → Env → Option Env} {t t1 : Env → Sto → Res Bool} {e : Env → Sto → Res D} (hc : X.calm = true) (hN : X.N.Nodup) (hi : VIe X F W tg it ri) (ok : BlkOk X.N X.env.scope scope own) (hv : ∀ i ∈ vs1, i ∈ own.map (·.2))
    (hg : InBlk X scope fun Y => VG Y F tg ix g) (ht : InBlk X scope fun Y => VTs Y F W0 ifs t) (hi1 : InBlk X scope fun Y => VI Y F W0 tg1 it1 ri1) (hg1 : InBlk X scope fun Y => VG Y F tg1 ix1 g1) (ht1 : InBlk X scope fun Y => VTs Y F W0 ifs1 t1) (he : InBlk X scope fun Y => VF Y F W0 elt e)
    (gk : GKeep g) (hix : ∀ i ∈ ix, i ∈ own.map (·.2)) (hix1 : ∀ i ∈ ix1, i ∈ vs1) (hs : ∀ x, foldedSetIterable it X.env x = pure x := by intro _; rfl) (hs1 : ∀ env x, foldedSetIterable it1 env x = pure x := by intro _ _; rfl) :
    VO X F W (.ListComp elt [⟨tg, it, ifs, 0⟩, ⟨tg1, it1, ifs1, 0⟩] scope pos) (rLc2 ri (own.map (·.2)) g t ri1 vs1 g1 t1 e) :=
  pe_imp (pe_lc2 hc hN hi ok hv hg ht hi1 hg1 ht1 he hs hs1) fun σ H Q q => lc2_read gk hix hix1 q
theorem vs_setLc2 {i : Nat} {y : Str} {py spos : Pos} {ifs ifs1 : List Expr} {scope : Scope} {own : List (Str × Nat)} {vs1 : List Nat} {pos : Pos} {ri ri1 : Env → Sto → Res (List D)} {ix ix1 : List Nat} {g g1 : D → Env → Option Env} {t t1 : Env → Sto → Res Bool} {e : Env → Sto → Res D} (hc : X.calm = true) (hN : X.N.Nodup) (hy : X.N[i]? = some y) (hyl : X.env.scope.names.lookup y = some .local)
    (hsw : swapsWith (.ListComp elt [⟨tg, it, ifs, 0⟩, ⟨tg1, it1, ifs1, 0⟩] scope pos) (some (.Name y py)) spos.line X.env = pure true) (hi : VIe X F W tg it ri) (ok : BlkOk X.N X.env.scope scope own) (hv : ∀ i ∈ vs1, i ∈ own.map (·.2))
    (hg : InBlk X scope fun Y => VG Y F tg ix g) (ht : InBlk X scope fun Y => VTs Y F W0 ifs t) (hi1 : InBlk X scope fun Y => VI Y F W0 tg1 it1 ri1) (hg1 : InBlk X scope fun Y => VG Y F tg1 ix1 g1) (ht1 : InBlk X scope fun Y => VTs Y F W0 ifs1 t1) (he : InBlk X scope fun Y => VF Y F W0 elt e)
    (gk : GKeep g) (hix : ∀ i ∈ ix, i ∈ own.map (·.2)) (hix1 : ∀ i ∈ ix1, i ∈ vs1) (hs : ∀ x, foldedSetIterable it X.env x = pure x := by intro _; rfl) (hs1 : ∀ env x, foldedSetIterable it1 env x = pure x := by intro _ _; rfl) :
    VS1 X F W (.Assign [.Name y py] (.ListComp elt [⟨tg, it, ifs, 0⟩, ⟨tg1, it1, ifs1, 0⟩] scope pos) spos) (rSetO i (rLc2 ri (own.map (·.2)) g t ri1 vs1 g1 t1 e)) :=
  ps_imp (ps_setLc2 hc hN hy hyl hsw hi ok hv hg ht hi1 hg1 ht1 he hs hs1) fun Dn σ H ⟨ρ, S, β, hr, hp⟩ =>
    lc2_read gk hix hix1 (tG_then hr hp fun v H1 d S1 β1 r1 e1 c1 p1 => by
      unfold setE at p1
      split at p1
      · rename_i hl
        obtain ⟨a, vs, e0, n, ha, gg, nb⟩ := c1
        subst e0
        refine p1 _ H1 β1 (r1.setOwn ha gg nb (hr.ev.dom a n) hl fun j s _ q1 q2 q3 => ?_) (.refl _ _)
        obtain ⟨ys, z⟩ := hr.ownAt q1 q2 q3
        rw [n] at z
        cases z
      · exact p1.elim)
end
end VS

set_option maxHeartbeats 4000000
namespace VS
open PySem PySem.Spec PyProof.Rows L2
inductive PV where
  | v (d : D)
  | o (l : List D)
def PV.sl : PV → Sl
  | .v d => .val d
  | .o l => .ol l
inductive RPs (Z : Wd) (β' : List Addr) (H' : Hp) : Hp → List V → List PV → Prop
  | nil {H : Hp} : RPs Z β' H' H [] []
  | v {H : Hp} {x : V} {d : D} {vs : List V} {ps : List PV} : Rep Z β' H' x d → RPs Z β' H' H vs ps → RPs Z β' H' H (x :: vs) (.v d :: ps)
  | o {H H1 : Hp} {a : Addr} {ws : List V} {l : List D} {vs : List V} {ps : List PV} : H a = none → H' a = some (.lst ws) → Reps Z β' H' ws l → a ∉ β' → (∃ u, H1 a = some u) → (∀ x, H1 x = none → H x = none) → RPs Z β' H' H1 vs ps → RPs Z β' H' H (.ref a :: vs) (.o l :: ps)
abbrev RPv (Z : Wd) : RR (List V) (List PV) := fun H β' H' vs ps => RPs Z β' H' H vs ps
theorem RPs.anti {Z : Wd} {β' : List Addr} {H' H H0 : Hp} {vs : List V} {ps : List PV} (h : RPs Z β' H' H vs ps) (e : ∀ x, H x = none → H0 x = none) : RPs Z β' H' H0 vs ps := by
  induction h generalizing H0 with
  | nil => exact .nil
  | v r t ih => exact .v r (ih e)
  | o h1 h2 h3 h4 h5 h6 t ih => exact .o (e _ h1) h2 h3 h4 h5 (fun x hx => e x (h6 x hx)) t
theorem anti_Pv {Z : Wd} : Anti (RPv Z) := fun _ _ _ _ _ _ _ _ e h => RPs.anti h e.dom
@[simp] def rPC (a : Env → Sto → Res PV) (r : Env → Sto → Res (List PV)) : Env → Sto → Res (List PV) := fun ρ S => (a ρ S).bind fun x S1 => (r ρ S1).bind fun xs S2 => .ok (x :: xs) S2
@[simp] def rPN : Env → Sto → Res (List PV) := fun _ S => .ok [] S
@[simp] def rPV (r : Env → Sto → Res D) : Env → Sto → Res PV := fun ρ S => (r ρ S).bind fun x S1 => .ok (.v x) S1
@[simp] def rPO (r : Env → Sto → Res (List D)) : Env → Sto → Res PV := fun ρ S => (r ρ S).bind fun x S1 => .ok (.o x) S1
section
variable {X : Cx} {F : Fr} {W : WX} {e : Expr} {es : List Expr}
abbrev VP (X : Cx) (F : Fr) (W : WX) (es : List Expr) (r : Env → Sto → Res (List PV)) : Prop := PA X es (tG (zX X F) F W (RPv (zX X F)) r)
theorem vpp_nil : VP X F W [] rPN := pa_imp pa_nil fun σ H Q q => by
  obtain ⟨ρ, S, β, hr, hp⟩ := q
  exact tG_end hr hp (.refl _) .nil
theorem vpp_v {a : Env → Sto → Res D} {r : Env → Sto → Res (List PV)} (ha : VF X F W e a) (hr : VP X F W es r) (hs : starEach (e :: es) X.env = (false, eval e X.env) :: starEach es X.env := by rfl) : VP X F W (e :: es) (rPC (rPV a) r) := pa_imp (pa_cons ha hr hs) fun σ H Q q => by
  obtain ⟨ρ, S, β, hr, hp⟩ := q
  have hp : Post (zX X F) F W ρ σ β H (RPv (zX X F)) ((a ρ S).bind fun x S1 => (r ρ S1).bind fun xs S2 => .ok (.v x :: xs) S2) Q := by
    unfold rPC rPV at hp
    cases e : a ρ S <;> rw [e] at hp <;> exact hp
  refine ⟨ρ, S, β, hr, ?_⟩
  cases ea : a ρ S with
  | exc x S' => rw [ea] at hp; exact hp
  | stuck => rw [ea] at hp; exact hp
  | ok l S1 =>
    rw [ea] at hp
    intro x H1 β1 r1 e1 c1
    refine ⟨ρ, S1, β1, r1, ?_⟩
    have hp : Post (zX X F) F W ρ σ β H (RPv (zX X F)) ((r ρ S1).bind fun xs S2 => .ok (.v l :: xs) S2) Q := hp
    cases er : r ρ S1 with
    | exc x S' => rw [er] at hp; exact fun cls dd H2 β2 a b c => hp cls dd H2 β2 a (e1.trans b) c
    | stuck => rw [er] at hp; exact hp
    | ok ps S2 =>
      rw [er] at hp
      intro ys H2 β2 r2 e2 c2
      exact hp _ H2 β2 r2 (e1.trans e2) (.v (c1.mono e2) (RPs.anti c2 e1.dom))
theorem vpp_o {a : Env → Sto → Res (List D)} {r : Env → Sto → Res (List PV)} (ha : VO X F W e a) (hr : VP X F W es r) (hs : starEach (e :: es) X.env = (false, eval e X.env) :: starEach es X.env := by rfl) : VP X F W (e :: es) (rPC (rPO a) r) := pa_imp (pa_cons ha hr hs) fun σ H Q q => by
  obtain ⟨ρ, S, β, hr, hp⟩ := q
  have hp : Post (zX X F) F W ρ σ β H (RPv (zX X F)) ((a ρ S).bind fun x S1 => (r ρ S1).bind fun xs S2 => .ok (.o x :: xs) S2) Q := by
    unfold rPC rPO at hp
    cases e : a ρ S <;> rw [e] at hp <;> exact hp
  refine ⟨ρ, S, β, hr, ?_⟩
  cases ea : a ρ S with
  | exc x S' => rw [ea] at hp; exact hp
  | stuck => rw [ea] at hp; exact hp
  | ok l S1 =>
    rw [ea] at hp
    intro x H1 β1 r1 e1 c1
    obtain ⟨p, ws, rfl, n0, h1, g, nb⟩ := c1
    refine ⟨ρ, S1, β1, r1, ?_⟩
    have hp : Post (zX X F) F W ρ σ β H (RPv (zX X F)) ((r ρ S1).bind fun xs S2 => .ok (.o l :: xs) S2) Q := hp
    cases er : r ρ S1 with
    | exc x S' => rw [er] at hp; exact fun cls dd H2 β2 a b c => hp cls dd H2 β2 a (e1.trans b) c
    | stuck => rw [er] at hp; exact hp
    | ok ps S2 =>
      rw [er] at hp
      intro ys H2 β2 r2 e2 c2
      refine hp _ H2 β2 r2 (e1.trans e2) (.o (H1 := H1) n0 (e2.keep _ _ h1 (.inr ⟨nb, rfl⟩)) (g.mono e2) (e2.notin h1 nb) ⟨_, h1⟩ e1.dom c2)
@[simp] def rParP (i j : Nat) (r : Env → Sto → Res (List PV)) : RS := fun ρ S => (r ρ S).thenS fun ds S1 => match ds with
  | [a, b] => if i < ρ.length ∧ j < ρ.length then .nx ((ρ.set i a.sl).set j b.sl) S1 else .stuck
  | _ => .stuck
/-- slots that are set one after another -/
structure SetOk (X : Cx) (F : Fr) (β : List Addr) (H' H : Hp) (σ : L2.St) (ρ : Env) : Prop where
  own : ∀ (j : Nat) (s : Sl) (a : Addr), ρ[j]? = some s → isOwn s = true → H a = none → σ[j]? ≠ some (some (.ref a))
theorem setPV {ρ : Env} {S : Sto} {β : List Addr} {σ : L2.St} {H H' : Hp} {i : Nat} {v : V} {vs : List V} {p : PV} {ps : List PV} (h : Rel (zX X F) F ρ S β σ H') (h0 : ∀ x, H x = none → F.H0 x = none) (hi : i < ρ.length) (ok : SetOk X F β H' H σ ρ) (r : RPs (zX X F) β H' H (v :: vs) (p :: ps)) :
    Rel (zX X F) F (ρ.set i p.sl) S β (σ.set i (some v)) H' ∧ ∃ H1, (∀ x, H1 x = none → H x = none) ∧ SetOk X F β H' H1 (σ.set i (some v)) (ρ.set i p.sl) ∧ RPs (zX X F) β H' H1 vs ps := by
  have fix : ∀ (q : Sl) (m : Nat) (s : Sl), (ρ.set i q)[m]? = some s → (i = m ∧ s = q) ∨ (i ≠ m ∧ ρ[m]? = some s) := fun q m s z => by
    by_cases hj : i = m
    · subst hj
      rw [List.getElem?_set_self hi] at z
      cases z
      exact .inl ⟨rfl, rfl⟩
    · rw [List.getElem?_set_ne hj] at z
      exact .inr ⟨hj, z⟩
  cases r with
  | v r t =>
    refine ⟨h.setVal r hi, H, fun _ z => z, ⟨fun j s a q1 q2 q3 => ?_⟩, t⟩
    rcases fix _ j s q1 with ⟨_, e⟩ | ⟨n, e⟩
    · subst e; cases q2
    · rw [List.getElem?_set_ne n]; exact ok.own j s a e q2 q3
  | o h1 h2 h3 h4 h5 h6 t =>
    refine ⟨h.setOwn h2 h3 h4 (h0 _ h1) hi fun j s _ q1 q2 => ok.own j s _ q1 q2 h1, _, h6, ⟨fun j s a q1 q2 q3 => ?_⟩, t⟩
    rcases fix _ j s q1 with ⟨e1, e⟩ | ⟨n, e⟩
    · subst e1
      rw [List.getElem?_set_self (by rw [← h.len]; exact hi)]
      intro z
      obtain ⟨u, hu⟩ := h5
      cases z
      rw [hu] at q3; cases q3
    · rw [List.getElem?_set_ne n]; exact ok.own j s a e q2 (h6 _ q3)
theorem vs_parP {i j : Nat} {x y : Str} {a b : Expr} {px py pt : Pos} {kt k2 : Nat} {pt2 pos : Pos} {r : Env → Sto → Res (List PV)} (hc : X.calm = true) (hN : X.N.Nodup) (hi : X.N[i]? = some x) (hj : X.N[j]? = some y) (hij : i ≠ j)
    (hx : X.env.scope.names.lookup x = some .local) (hy : X.env.scope.names.lookup y = some .local) (ha : VP X F W [a, b] r)
    (hw : swappedStores [.Tuple [.Name x px, .Name y py] kt pt] (.Tuple [a, b] k2 pt2) X.env = pure (some [x, y]))
    (hs : swapsWithSole [.Tuple [.Name x px, .Name y py] kt pt] (.Tuple [a, b] k2 pt2) pos.line X.env = pure false := by rfl) :
    VS1 X F W (.Assign [.Tuple [.Name x px, .Name y py] kt pt] (.Tuple [a, b] k2 pt2) pos) (rParP i j r) := ps_imp (ps_par hc hN hi hj hij hx hy ha hw hs) fun Dn σ H ⟨ρ, S, β, hr, hp⟩ =>
  tG_then hr hp fun v H1 d S1 β1 r1 e1 c1 p1 => by
    have ok : SetOk X F β1 H1 H σ ρ := ⟨fun j s a q1 q2 q3 q4 => by
      obtain ⟨ys, z⟩ := hr.ownAt q1 q2 q4
      rw [q3] at z; cases z⟩
    have h0 : ∀ x, H x = none → F.H0 x = none := hr.ev.dom
    match d, v, c1 with
    | [d1, d2], [v1, v2], c1 =>
      have p1 : PostS X F W β1 H1 (if i < ρ.length ∧ j < ρ.length then .nx ((ρ.set i d1.sl).set j d2.sl) S1 else .stuck) Dn := p1
      split at p1
      · rename_i hl
        obtain ⟨g1, H2, k1, k2, t⟩ := setPV r1 h0 hl.1 ok c1
        obtain ⟨g2, _⟩ := setPV g1 (fun x z => h0 x (k1 x z)) (by rw [List.length_set]; exact hl.2) k2 t
        exact ⟨_, _, rfl, p1 _ H1 β1 g2 (.refl _ _)⟩
      · exact p1.elim
    | [], _, _ => exact p1.elim
    | [_], _, _ => exact p1.elim
    | _ :: _ :: _ :: _, _, _ => exact p1.elim
    | [_, _], [], c1 => cases c1
    | [_, _], [_], c1 => cases c1 with
      | v _ t => cases t
      | o _ _ _ _ _ _ t => cases t
    | [_, _], _ :: _ :: _ :: _, c1 => cases c1 with
      | v _ t => cases t with
        | v _ t => cases t
        | o _ _ _ _ _ _ t => cases t
      | o _ _ _ _ _ _ t => cases t with
        | v _ t => cases t
        | o _ _ _ _ _ _ t => cases t
@[simp] def rParP3 (i j k : Nat) (r : Env → Sto → Res (List PV)) : RS := fun ρ S => (r ρ S).thenS fun ds S1 => match ds with
  | [a, b, c] => if i < ρ.length ∧ j < ρ.length ∧ k < ρ.length then .nx (((ρ.set i a.sl).set j b.sl).set k c.sl) S1 else .stuck
  | _ => .stuck
theorem RPs.length {Z : Wd} {β' : List Addr} {H' H : Hp} {vs : List V} {ps : List PV} (h : RPs Z β' H' H vs ps) : vs.length = ps.length := by
  induction h with
  | nil => rfl
  | v _ _ ih => simp [ih]
  | o _ _ _ _ _ _ _ ih => simp [ih]
theorem vs_parP3 {i j k : Nat} {x y z : Str} {a b c : Expr} {px py pz pt : Pos} {kt k2 : Nat} {pt2 pos : Pos} {r : Env → Sto → Res (List PV)} (hc : X.calm = true) (hN : X.N.Nodup) (hi : X.N[i]? = some x) (hj : X.N[j]? = some y) (hk : X.N[k]? = some z) (hij : i ≠ j) (hik : i ≠ k) (hjk : j ≠ k)
    (hx : X.env.scope.names.lookup x = some .local) (hy : X.env.scope.names.lookup y = some .local) (hz : X.env.scope.names.lookup z = some .local) (ha : VP X F W [a, b, c] r)
    (hw : swappedStores [.Tuple [.Name x px, .Name y py, .Name z pz] kt pt] (.Tuple [a, b, c] k2 pt2) X.env = pure (some [x, y, z]))
    (hs : swapsWithSole [.Tuple [.Name x px, .Name y py, .Name z pz] kt pt] (.Tuple [a, b, c] k2 pt2) pos.line X.env = pure false := by rfl) :
    VS1 X F W (.Assign [.Tuple [.Name x px, .Name y py, .Name z pz] kt pt] (.Tuple [a, b, c] k2 pt2) pos) (rParP3 i j k r) := ps_imp (ps_par3 hc hN hi hj hk hij hik hjk hx hy hz ha hw hs) fun Dn σ H ⟨ρ, S, β, hr, hp⟩ =>
  tG_then hr hp fun v H1 d S1 β1 r1 e1 c1 p1 => by
    have ok : SetOk X F β1 H1 H σ ρ := ⟨fun j s a q1 q2 q3 q4 => by
      obtain ⟨ys, z⟩ := hr.ownAt q1 q2 q4
      rw [q3] at z; cases z⟩
    have h0 : ∀ x, H x = none → F.H0 x = none := hr.ev.dom
    have hl := c1.length
    match d, v, c1, hl with
    | [d1, d2, d3], [v1, v2, v3], c1, hl =>
      have p1 : PostS X F W β1 H1 (if i < ρ.length ∧ j < ρ.length ∧ k < ρ.length then .nx (((ρ.set i d1.sl).set j d2.sl).set k d3.sl) S1 else .stuck) Dn := p1
      split at p1
      · rename_i hl
        obtain ⟨g1, H2, k1, k2, t⟩ := setPV r1 h0 hl.1 ok c1
        obtain ⟨g2, H3, k3, k4, t2⟩ := setPV g1 (fun x z => h0 x (k1 x z)) (by rw [List.length_set]; exact hl.2.1) k2 t
        obtain ⟨g3, _⟩ := setPV g2 (fun x z => h0 x (k1 x (k3 x z))) (by rw [List.length_set, List.length_set]; exact hl.2.2) k4 t2
        exact ⟨_, _, _, rfl, p1 _ H1 β1 g3 (.refl _ _)⟩
      · exact p1.elim
    | [], _, _, _ => exact p1.elim
    | [_], _, _, _ => exact p1.elim
    | [_, _], _, _, _ => exact p1.elim
    | _ :: _ :: _ :: _ :: _, _, _, _ => exact p1.elim
    | [_, _, _], [], _, hl => simp at hl
    | [_, _, _], [_], _, hl => simp at hl
    | [_, _, _], [_, _], _, hl => simp at hl
    | [_, _, _], _ :: _ :: _ :: _ :: _, _, hl => simp at hl
theorem RPs.same {Z : Wd} {β' : List Addr} {H' H'' H : Hp} {vs : List V} {ps : List PV} (h : RPs Z β' H' H vs ps) (e : Same H' H'') : RPs Z β' H'' H vs ps := by
  induction h with
  | nil => exact .nil
  | v r t ih => exact .v (r.mono (.of e)) ih
  | o h1 h2 h3 h4 h5 h6 t ih => exact .o h1 (e _ _ h2) (h3.mono (.of e)) h4 h5 h6 ih
/-- as vs_parP, by a tuple -/
theorem vs_asgP {i j : Nat} {x y : Str} {a b : Expr} {px py pt : Pos} {kt k2 : Nat} {pt2 pos : Pos} {r : Env → Sto → Res (List PV)} (hc : X.calm = true) (hN : X.N.Nodup) (hi : X.N[i]? = some x) (hj : X.N[j]? = some y)
    (hx : Loc X.env.scope x) (hy : Loc X.env.scope y) (hfx : X.fn x = true ∨ X.env.scope.names.lookup x = some .local) (hfy : X.fn y = true ∨ X.env.scope.names.lookup y = some .local) (ha : VP X F W [a, b] r)
    (hs : swapsWithSole [.Tuple [.Name x px, .Name y py] kt pt] (.Tuple [a, b] k2 pt2) pos.line X.env = pure false := by rfl) (hw : swappedStores [.Tuple [.Name x px, .Name y py] kt pt] (.Tuple [a, b] k2 pt2) X.env = pure none := by rfl)
    (h1 : (assignEach [.Tuple [.Name x px, .Name y py] kt pt] X.env).map (·.2) = [assign (.Tuple [.Name x px, .Name y py] kt pt) X.env] := by rfl)
    (hn : (assignEach [.Name x px, .Name y py] X.env).length = 2 := by rfl) (hst : (assignEach [.Name x px, .Name y py] X.env).findIdx? (·.1) = none := by rfl)
    (hs1 : (assignEach [.Name x px, .Name y py] X.env).map (·.2) = assign (.Name x px) X.env :: (assignEach [.Name y py] X.env).map (·.2) := by rfl) (hs2 : (assignEach [.Name y py] X.env).map (·.2) = assign (.Name y py) X.env :: (assignEach [] X.env).map (·.2) := by rfl) :
    VS1 X F W (.Assign [.Tuple [.Name x px, .Name y py] kt pt] (.Tuple [a, b] k2 pt2) pos) (rParP i j r) :=
  ps_imp (ps_asg (pe_tup ha) (pg_tup hc (pgs_cons (pg_name hN hi hx hfx) (pgs_cons (pg_name hN hj hy hfy) pgs_nil hs2) hs1) hn hst) hs hw h1) fun Dn σ H ⟨ρ, S, β, hr, hp⟩ =>
  tG_then hr hp fun v H1 d S1 β1 r1 e1 c1 p1 => by
    have ok : SetOk X F β1 H1 H σ ρ := ⟨fun j s a q1 q2 q3 q4 => by
      obtain ⟨ys, z⟩ := hr.ownAt q1 q2 q4
      rw [q3] at z; cases z⟩
    have h0 : ∀ x, H x = none → F.H0 x = none := hr.ev.dom
    have hlen := c1.length
    match d, v, c1, hlen with
    | [d1, d2], [v1, v2], c1, _ =>
      have p1 : PostS X F W β1 H1 (if i < ρ.length ∧ j < ρ.length then .nx ((ρ.set i d1.sl).set j d2.sl) S1 else .stuck) Dn := p1
      split at p1
      · rename_i hl
        refine ⟨by show 2 ≤ sizeLine; decide, fun p np => ?_⟩
        have sm : Same H1 (upd H1 p (.tup [v1, v2])) := .new np
        have ok2 : SetOk X F β1 (upd H1 p (.tup [v1, v2])) H σ ρ := ⟨ok.own⟩
        obtain ⟨g1, H2, k1, k2, t⟩ := setPV (r1.same sm) h0 hl.1 ok2 (c1.same sm)
        obtain ⟨g2, _⟩ := setPV g1 (fun x z => h0 x (k1 x z)) (by rw [List.length_set]; exact hl.2) k2 t
        exact ⟨p, [v1, v2], rfl, .inl (.of upd_same), rfl, v1, [v2], rfl, v2, [], rfl, rfl, p1 _ _ β1 g2 (Ev.of sm).sv⟩
      · exact p1.elim
    | [], _, _, _ => exact p1.elim
    | [_], _, _, _ => exact p1.elim
    | _ :: _ :: _ :: _, _, _, _ => exact p1.elim
    | [_, _], [], _, hl => simp at hl
    | [_, _], [_], _, hl => simp at hl
    | [_, _], _ :: _ :: _ :: _, _, hl => simp at hl
end
end VS

set_option maxHeartbeats 4000000
namespace VS
open PySem PySem.Spec PyProof.Rows L2
section
variable {X : Cx} {F : Fr} {W : WX}
theorem qv (i : Nat) {x : Str} {pos : Pos} (hN : X.N[i]? = some x := by rfl) (hv : Vis X.env.scope x := by first | exact Or.inl rfl | exact Or.inr (Or.inl rfl) | exact Or.inr (Or.inr rfl)) (hd : (x == ("__debug__" : Str)) = false := by decide) (hcd : (x == ("__classdict__" : Str)) = false := by decide) : VF X F W (.Name x pos) (rVar i) := ve_var hN hv hd hcd
theorem qo (i : Nat) {x : Str} {pos : Pos} (hN : X.N[i]? = some x := by rfl) (hv : Vis X.env.scope x := by first | exact Or.inl rfl | exact Or.inr (Or.inl rfl) | exact Or.inr (Or.inr rfl)) (hd : (x == ("__debug__" : Str)) = false := by decide) (hcd : (x == ("__classdict__" : Str)) = false := by decide) : VX X F W (.Name x pos) (rOwn i) := ve_own hN hv hd hcd
theorem qg (i : Nat) {x : Str} {pos : Pos} (nd : X.N.Nodup) (hi : X.N[i]? = some x := by rfl) (hx : Loc X.env.scope x := by first | exact Or.inl rfl | exact Or.inr rfl) (hf : X.fn x = true ∨ X.env.scope.names.lookup x = some .local := by first | exact .inl rfl | exact .inr rfl) : VG X F (.Name x pos) [i] (gN i) := vg_name nd hi hx hf
theorem qsetF (i : Nat) {x : Str} {e : Expr} {pos pos' : Pos} {r : Env → Sto → Res D} (nd : X.N.Nodup) (h : VF X F W e r) (hi : X.N[i]? = some x := by rfl) (hx : Loc X.env.scope x := by first | exact Or.inl rfl | exact Or.inr rfl) (hs : swapsWith e (some (.Name x pos')) pos.line X.env = pure false := by rfl) (hf : X.fn x = true ∨ X.env.scope.names.lookup x = some .local := by first | exact .inl rfl | exact .inr rfl) : VS1 X F W (.Assign [.Name x pos'] e pos) (rSetF i r) := vs_setF nd hi hx h hs hf
theorem qsetO (i : Nat) {x : Str} {e : Expr} {pos pos' : Pos} {r : Env → Sto → Res (List D)} (nd : X.N.Nodup) (h : VO X F W e r) (hi : X.N[i]? = some x := by rfl) (hx : Loc X.env.scope x := by first | exact Or.inl rfl | exact Or.inr rfl) (hs : swapsWith e (some (.Name x pos')) pos.line X.env = pure false := by rfl) (hf : X.fn x = true ∨ X.env.scope.names.lookup x = some .local := by first | exact .inl rfl | exact .inr rfl) : VS1 X F W (.Assign [.Name x pos'] e pos) (rSetO i r) := vs_setO nd hi hx h hs hf
theorem qcall0 {f : Str} {k : Nat} {Fn : List D → Sto → Res D} {p pos : Pos} (h : HasFn X.prog X.w X.K X.mg X.base F.T f k 0 Fn) (hr : Room k X.A) (tk : L2N.Takes X W) (hg : Gl X f := by rfl) (hdb : (f == ("__debug__" : Str)) = false := by decide) : VF X F W (.Call (.Name f p) [] [] pos) (rCall Fn rNil) := by
  obtain ⟨fa, fd, ps, h1, h2, h3, h4⟩ := h.ex
  have hpe : PE X (.Call (.Name f p) [] [] pos) (tCallS (spF (zX X F) 0 Fn) (WE W) tNil) := by
    refine ⟨fun pins s σ H Q I q => ?_⟩
    refine wpAny_Call_Name_kw (ld_glob I hg h2 ?_ hdb)
    exact PySem.W.callWith_K0 I.kIn h3 (run_fnS (us := []) h1 hr h4 (L2N.passAt tk σ) I .nil q)
  exact pe_imp hpe fun σ H Q q => by
    have z := call_read (n := 0) (r := rNil) (fun ρ S ds S' e => by cases e; rfl) q
    obtain ⟨ρ, S, β, hr, hp⟩ := z
    exact hp [] H β hr (.refl _ _) .nil
theorem qraise {x m : Str} {j : Nat} {p p2 pos pos2 : Pos} (h : ∃ C, ExcG X.K X.mg x C) (hc : X.calm = true) (tk : L2N.Takes X W) (hg : Gl X x := by rfl) (hdb : (x == ("__debug__" : Str)) = false := by decide) : VS1 X F W (.Raise (some (.Call (.Name x p) [.Constant (.str m) j p2] [] pos)) none pos2) (rRaise x) := by
  obtain ⟨C, G⟩ := h
  exact vs_raise G hc tk hg hdb
end
theorem room65 {k : Nat} {A : Around} (h : Room k A) : A.units + 65 < cLine := by have := h.un; omega
end VS

set_option maxHeartbeats 4000000
namespace VS
open PySem PySem.Spec PyProof.Rows L2 HotX
open Sem (wp)
open AutoSeq1 (wpAny_loadPart')
section
variable {prog : Program} {w : World} {A : Around} {E : Value → Shared → Prop} {s : Shared}
theorem hotAt_keeps {x1 : Addr} {h h' : Heap} (hot : HotAt A x1 h) (k : ∀ o, h.get? x1 = some o → h'.get? x1 = some o) : HotAt A x1 h' := by
  obtain ⟨hh, o, vs, e, d, c⟩ := hot
  exact ⟨hh, o, vs, k o e, d, c⟩
theorem nextOf_list_end_hot {it l x1 : Addr} {i : Nat} {items : Array Value} {Q : Value → Shared → Prop} (hot : HotAt A x1 s.heap)
    (hit : s.heap.IsListIter it l i) (hl : s.heap.IsList l items) (hx : items[i]? = none)
    (hE : ∀ h' e, Heap.ExtBut it s.heap h' → (∃ o, h'.get? e = some o ∧ o.cls = .type "StopIteration") → E (.ref e) { s with heap := h' }) :
    wpAny (model prog w) A (Builtin.SmallTypes.nextOf (.ref it)) Q E s := by
  obtain ⟨o, ho, hc, hd⟩ := id hit
  obtain ⟨ol, hol, _, nl, hdl⟩ := hl
  obtain ⟨hh, o1, vs1, h1, d1, c1⟩ := id hot
  have hne : x1 ≠ it := fun z => by
    subst z
    rw [h1] at ho
    cases ho
    rw [hd] at d1
    cases d1
    simp at c1
  unfold Builtin.SmallTypes.nextOf
  refine wpAny_bind (wpAny_callSpecial?_slot (name := Str.ofString "__next__") hit.typeIs slot_listiter_next
    (wpAny_call_entry slot_listiter_next hit.typeIs entry_listiter_next ?_ (args_listiter_next _)))
  show wpAny _ _ (field (.ref it) 0 >>= _) _ _ s
  refine wpAny_bind (wpAny_field ho hd (x := .ref l) rfl ?_)
  show wpAny _ _ (if (Value.ref l == Value.none) = true then _ else _) _ _ s
  rw [if_neg (show ¬ ((Value.ref l == Value.none) = true) from Bool.false_ne_true)]
  show wpAny _ _ (field (.ref it) 1 >>= _) _ _ s
  refine wpAny_bind (wpAny_field ho hd (x := .int i 0) rfl ?_)
  show wpAny _ _ (seqItems? (.ref l) >>= _) _ _ s
  refine wpAny_bind (wpAny_seqItems hol hdl ?_)
  simp only [Int.toNat_natCast, hx]
  refine wpAny_bind (wpAny_rule (wpAny_bind (wpAny_setField ho hd (by simp) ?_)))
  show wpAny _ _ (newExc (.type "StopIteration") [] >>= _) _ _ _
  refine wpAny_bind ?_
  simp only [newExc, newTuple]
  refine wpAny_bind (wpAny_newObj_type ?_ (by size_fits))
  refine wpAny_bind (m := firstArgMember _ _) (wpAny_of_eq (a := Value.none) (by first | rfl | (simp only [firstArgMember]; rfl)) ?_)
  refine wpAny_newObj_type ?_ (by size_fits)
  have e1 : (s.heap.update it (Obj.mapFields (·.setIfInBounds 0 .none))).get? x1 = some o1 := (Heap.get?_update_other _ _ (Ne.symm hne)).trans h1
  refine raiseNew_hot ⟨hh, o1, vs1, Heap.get?_push_of_some _ (Heap.get?_push_of_some _ e1), d1, c1⟩ (Nat.ne_of_lt (Heap.lt_size (Heap.get?_push_of_some _ e1))) (Heap.get?_push_size _ rfl) rfl (by first | (simp; done) | (simp; omega) | (simp only [Array.size_append]; simp; omega)) ?_
  refine hE _ _ (fun b ob nb e => ?_) ⟨_, Heap.get?_update_self _ (Heap.get?_push_size _ rfl) rfl, rfl⟩
  have e2 : (s.heap.update it (Obj.mapFields (·.setIfInBounds 0 .none))).get? b = some ob := (Heap.get?_update_other _ _ (Ne.symm nb)).trans e
  rw [Heap.get?_update_other _ _ (Nat.ne_of_gt (Heap.lt_size (Heap.get?_push_of_some _ e2)))]
  exact Heap.get?_push_of_some _ (Heap.get?_push_of_some _ e2)
theorem zip_next_end_hot {z TI TO i1 i2 l1 l2 x1 : Addr} {k1 : Nat} {xs : Array Value} {a b : Value} {Q : Fin → Shared → Prop} (hot : HotAt A x1 s.heap) (D : ZipApart z TI TO i1 i2 l1 l2)
    (hz : IsZip s.heap z TI TO .none) (hTI : IsPair s.heap TI (.ref i1) (.ref i2)) (hTO : IsPair s.heap TO a b)
    (h1 : s.heap.IsListIter i1 l1 k1) (hl1 : s.heap.IsList l1 xs) (hx : xs[k1]? = none)
    (hE : ∀ h' e, (∀ c o, c ≠ z → c ≠ TO → c ≠ i1 → c ≠ i2 → s.heap.get? c = some o → h'.get? c = some o) → (∃ o, h'.get? e = some o ∧ o.cls = .type "StopIteration") → E (.ref e) { s with heap := h' }) :
    wpAny (model prog w) A (Builtin.«zip.__next__» ⟨[.ref z], []⟩) Q E s := by
  have nz : x1 ≠ z := fun q => by
    subst q
    obtain ⟨_, o1, vs1, e1, d1, c1⟩ := hot
    have hz' : s.heap.get? x1 = some _ := hz
    rw [e1] at hz'
    cases hz'
    cases d1
    cases c1
  show wpAny _ _ (field (.ref z) 2 >>= _) _ _ _
  refine wpAny_bind (wpAny_field hz rfl (x := .bool false) rfl ?_)
  show wpAny _ _ (field (.ref z) 3 >>= _) _ _ _
  refine wpAny_bind (wpAny_field hz rfl (x := .ref TI) rfl ?_)
  refine wpAny_bind (wpAny_seqItems hTI rfl ?_)
  show wpAny _ _ (Builtin.SmallTypes.ownedTupleIsFree (.ref z) >>= _) _ _ _
  refine wpAny_bind ?_
  unfold Builtin.SmallTypes.ownedTupleIsFree
  refine wpAny_bind (wpAny_field hz rfl (x := .none) rfl (wpAny_pure ?_))
  simp only [if_true]
  refine wpAny_bind (wpAny_rule ?_)
  refine wpAny_bind (wpAny_field hz rfl (x := .ref TO) rfl ?_)
  refine wpAny_bind (wpAny_setField_rec hz (by simp) fun h₁ hz₁ hs₁ => ?_)
  replace hz₁ : IsZip h₁ z TI TO .ellipsis := hz₁
  refine wpAny_bind ?_
  simp only [List.zipIdx_cons, List.zipIdx_nil, List.forIn_cons, List.forIn_nil]
  refine wpAny_bind (wpAny_bind (wpAny_onRaise ?_))
  show wpAny _ _ (Builtin.SmallTypes.nextOf (.ref i1) >>= _) _ _ _
  have hot1 : HotAt A x1 h₁ := hotAt_keeps hot fun o e => hs₁.extBut _ _ nz e
  refine wpAny_bind (nextOf_list_end_hot hot1 (h1.extBut hs₁.extBut D.i1z) (hl1.extBut hs₁.extBut D.l1z) hx fun h₂ e hs₂ he => ?_)
  obtain ⟨oe, hoe, hce⟩ := he
  have hz₂ : IsZip h₂ z TI TO .ellipsis := hs₂ _ _ D.i1z.symm hz₁
  have hez : e ≠ z := fun x => by subst x; rw [hz₂] at hoe; cases hoe; simp at hce
  refine wpAny_setField_rec hz₂ (by simp) fun h₃ _ hs₃ => hE h₃ e (fun c o c1 _ c3 _ x => hs₃.extBut _ _ c1 (hs₂ _ _ c3 (hs₁.extBut _ _ c1 x))) ⟨oe, hs₃.extBut _ _ hez hoe, hce⟩
theorem pyNext_zip_end_hot {z TI TO i1 i2 l1 l2 x1 : Addr} {k1 : Nat} {xs : Array Value} {a b : Value} {Q : Option Value → Shared → Prop} (hot : HotAt A x1 s.heap) (D : ZipApart z TI TO i1 i2 l1 l2)
    (hz : IsZip s.heap z TI TO .none) (hTI : IsPair s.heap TI (.ref i1) (.ref i2)) (hTO : IsPair s.heap TO a b)
    (h1 : s.heap.IsListIter i1 l1 k1) (hl1 : s.heap.IsList l1 xs) (hx : xs[k1]? = none)
    (hQ : ∀ h', (∀ c o, c ≠ z → c ≠ TO → c ≠ i1 → c ≠ i2 → s.heap.get? c = some o → h'.get? c = some o) → Q none { s with heap := h' }) : wpAny (model prog w) A (pyNext (.ref z)) Q E s := by
  have hT : s.TypeIs (.ref z) "zip" := ⟨_, hz, rfl⟩
  unfold pyNext
  refine wpAny_bind (wpAny_attempt (wpAny_callSpecial?_slot (name := Str.ofString "__next__") hT PySem.F.slot_zip_next
    (wpAny_call_entry PySem.F.slot_zip_next hT PySem.F.entry_zip_next (zip_next_end_hot (A := A.in1) ⟨hot.1, hot.2⟩ D hz hTI hTO h1 hl1 hx fun h' e hk he => ?_) (PySem.F.args_zip_next_1 _))))
  obtain ⟨o, ho, hc⟩ := he
  refine wpAny_bind (wpAny_isInstance (T := "StopIteration") (b := true) ⟨o, ho, hc⟩ isSubtype_stop ?_)
  exact wpAny_pure (hQ _ hk)
theorem next_tuple_end_hot {it t x1 : Addr} {i : Nat} {items : Array Value} {Q : Option Value → Shared → Prop} (hot : HotAt A x1 s.heap)
    (hit : IsTupIter s.heap it t i) (ht : IsTup s.heap t items) (hx : items[i]? = none)
    (hQ : ∀ h', Heap.ExtBut it s.heap h' → Q none { s with heap := h' }) : wpAny (model prog w) A (pyNext (.ref it)) Q E s := by
  obtain ⟨o, ho, hc, hd⟩ := id hit
  obtain ⟨ol, hol, _, nl, hdl⟩ := ht
  obtain ⟨hh, o1, vs1, h1, d1, c1⟩ := id hot
  have hne : x1 ≠ it := fun z => by
    subst z
    rw [h1] at ho
    cases ho
    rw [hd] at d1
    cases d1
    simp at c1
  unfold pyNext
  refine wpAny_bind (wpAny_attempt (wpAny_callSpecial?_slot (name := Str.ofString "__next__") hit.typeIs slot_tupleiter_next
    (wpAny_call_entry slot_tupleiter_next hit.typeIs entry_tupleiter_next ?_ (args_tupleiter_next _))))
  show wpAny _ _ (field (.ref it) 0 >>= _) _ _ s
  refine wpAny_bind (wpAny_field ho hd (x := .ref t) rfl ?_)
  show wpAny _ _ (if (Value.ref t == Value.none) = true then _ else _) _ _ s
  rw [if_neg (show ¬ ((Value.ref t == Value.none) = true) from Bool.false_ne_true)]
  show wpAny _ _ (field (.ref it) 1 >>= _) _ _ s
  refine wpAny_bind (wpAny_field ho hd (x := .int i 0) rfl ?_)
  show wpAny _ _ (seqItems? (.ref t) >>= _) _ _ s
  refine wpAny_bind (wpAny_seqItems hol hdl ?_)
  simp only [Int.toNat_natCast, hx]
  refine wpAny_bind (wpAny_rule (wpAny_bind (wpAny_setField ho hd (by simp) ?_)))
  show wpAny _ _ (newExc (.type "StopIteration") [] >>= _) _ _ _
  refine wpAny_bind ?_
  simp only [newExc, newTuple]
  refine wpAny_bind (wpAny_newObj_type ?_ (by size_fits))
  refine wpAny_bind (m := firstArgMember _ _) (wpAny_of_eq (a := Value.none) (by first | rfl | (simp only [firstArgMember]; rfl)) ?_)
  refine wpAny_newObj_type ?_ (by size_fits)
  have e1 : (s.heap.update it (Obj.mapFields (·.setIfInBounds 0 .none))).get? x1 = some o1 := (Heap.get?_update_other _ _ (Ne.symm hne)).trans h1
  refine raiseNew_hot ⟨hh, o1, vs1, Heap.get?_push_of_some _ (Heap.get?_push_of_some _ e1), d1, c1⟩ (Nat.ne_of_lt (Heap.lt_size (Heap.get?_push_of_some _ e1))) (Heap.get?_push_size _ rfl) rfl (by first | (simp; done) | (simp; omega) | (simp only [Array.size_append]; simp; omega)) ?_
  refine wpAny_bind (wpAny_isInstance (T := "StopIteration") (b := true) ⟨_, Heap.get?_update_self _ (Heap.get?_push_size _ rfl) rfl, rfl⟩ isSubtype_stop ?_)
  refine wpAny_pure (hQ _ fun b ob nb e => ?_)
  have e2 : (s.heap.update it (Obj.mapFields (·.setIfInBounds 0 .none))).get? b = some ob := (Heap.get?_update_other _ _ (Ne.symm nb)).trans e
  rw [Heap.get?_update_other _ _ (Nat.ne_of_gt (Heap.lt_size (Heap.get?_push_of_some _ e2)))]
  exact Heap.get?_push_of_some _ (Heap.get?_push_of_some _ e2)
theorem unpackItems_tuple_hot {t x1 : Addr} {items : Array Value} {Q : List Value → Shared → Prop} (hot : HotAt A x1 s.heap) (ht : IsTup s.heap t items)
    (hQ : ∀ h', Heap.ExtBut s.heap.objs.size s.heap h' → Q items.toList { s with heap := h' }) : wpAny (model prog w) A (unpackItems (.ref t) items.size none) Q E s := by
  have hlt : t ≠ s.heap.objs.size := by obtain ⟨o, ho, _⟩ := ht; exact Nat.ne_of_lt (Heap.lt_size ho)
  have hx1 : x1 ≠ s.heap.objs.size := by obtain ⟨_, o, _, ho, _⟩ := hot; exact Nat.ne_of_lt (Heap.lt_size ho)
  unfold unpackItems
  refine wpAny_bind ?_
  · unfold notIterableAtAll
    refine wpAny_bind (wpAny_specialOf ht.typeIs slot_tuple_iter.lookup ?_)
    refine wpAny_pure ?_
    simp only [Bool.false_eq_true, if_false]
    refine wpAny_bind (wpAny_holding (iter_tuple ht ?_))
    refine wpAny_bind (wpAny_holding (draw_tuple hlt items.size 0 _ _ ⟨_, Heap.get?_push_size _ rfl, rfl, rfl⟩ (ht.push _) (by omega) fun h₁ hit₁ hs₁ => ?_))
    have hall : List.take items.size (List.drop 0 items.toList) = items.toList := by
      rw [List.drop_zero]; exact List.take_of_length_le (by simp)
    rw [hall]
    rw [if_neg (by simp)]
    have ht₁ : IsTup h₁ t items := (ht.push _).extBut hs₁.extBut hlt
    have hot₁ : HotAt A x1 h₁ := hotAt_keeps hot fun o e => hs₁.extBut _ _ hx1 (Heap.get?_push_of_some _ e)
    refine wpAny_bind (wpAny_holding (next_tuple_end_hot hot₁ hit₁ ht₁ (by simp) fun h₂ he₂ => ?_))
    simp only [Option.isSome_none, Bool.false_eq_true, if_false]
    refine wpAny_pure (hQ h₂ fun b o hb e => he₂ b o hb (hs₁.extBut b o hb (Heap.get?_push_of_some _ e)))
theorem assign_tuple_hot {env : PySem.Env} {elts : List Expr} {k : Nat} {pos : Pos} {t x1 : Addr} {items : Array Value} {Q : Unit → Shared → Prop} (hot : HotAt A x1 s.heap) (ht : IsTup s.heap t items)
    (hn : (assignEach elts env).length = items.size) (hstar : (assignEach elts env).findIdx? (·.1) = none)
    (h : ∀ h', Heap.ExtBut s.heap.objs.size s.heap h' → wpAny (model prog w) A (assignInOrder ((assignEach elts env).map (·.2)) items.toList) Q E { s with heap := h' }) :
    wpAny (model prog w) A (assign (.Tuple elts k pos) env (.ref t)) Q E s := by
  rw [assign_Tuple]
  refine wpAny_bind (wpAny_standAt ?_)
  unfold unpack
  rw [hn, hstar]
  exact wpAny_bind (wpAny_holding (unpackItems_tuple_hot hot ht h))
end
/-- the ground of the context bears the exception that is handled -/
def HotB (X : Cx) : Prop := ∃ p : Addr × Obj, L2H.Hot1 X.A p ∧ X.s_0.heap.get? p.1 = some p.2 ∧ X.H_0 p.1 = none ∧ p.1 ∉ X.ex
theorem HotB.at {X : Cx} {pins : List (Addr × Obj)} {σ : L2.St} {H : Hp} {s : Shared} (h : HotB X) (I : Inv X pins σ H s) : ∃ x1, HotAt X.A x1 s.heap := by
  obtain ⟨p, ⟨hh, v1, e1, c1⟩, g1, g2, g3⟩ := h
  obtain ⟨sl, z⟩ := I.base.any g1 g2 g3
  exact ⟨p.1, hh, _, v1, z, e1, c1⟩
theorem pg_tupH {X : Cx} {es : List Expr} {k : Nat} {t : TGs} {n : Nat} {pos : Pos} (hb : HotB X) (h : PGs X es t)
    (hn : (assignEach es X.env).length = n := by rfl) (hst : (assignEach es X.env).findIdx? (·.1) = none := by rfl) : PG X (.Tuple es k pos) (gTup X.K n t) := by
  refine ⟨fun pins s σ H v u Q I r hw => ?_⟩
  obtain ⟨a, xs, e1, hq, hl, hw⟩ := hw
  subst e1
  cases r
  obtain ⟨its, rv, ht, hz⟩ := I.tuple hq
  obtain ⟨x1, hot⟩ := hb.at I
  refine assign_tuple_hot hot ht (by simp [hn, ← hl, rv.length]) hst fun h' hx => ?_
  have I1 : Inv X pins σ H { s with heap := h' } := I.kept (t' := s.toks) fun b o e => hx b o (Nat.ne_of_lt (Heap.lt_size e)) e
  exact h.run pins _ σ H xs _ Q I1 (by simpa using rv) hw
end VS

set_option maxHeartbeats 4000000
namespace VS
open PySem PySem.Spec PyProof.Rows L2 HotX L2H
abbrev St := L2.St
structure TurnZ (P : Program) (w : World) (K : PySem.W.Frag) (tg : Expr) (J : It) (fp : List Addr) (it : Addr) (tn : Nat → Heap → Prop) : Prop where
  mem : it ∈ fp
  obj : ∀ i h, tn i h → ∀ b ∈ fp, ∃ o, h.get? b = some o ∧ ∀ v, o.data ≠ .cell v
  keep : ∀ i h h', tn i h → (∀ b ∈ fp, ∀ o, h.get? b = some o → h'.get? b = some o) → tn i h'
  item : ∀ (X : Cx), X.prog = P → X.w = w → X.K = K → ∀ (i : Nat) (pins : List (Addr × Obj)) (s : Shared) (σ : St) (H : Hp) (E : Value → Shared → Prop), Inv X pins σ H s → (∀ b ∈ fp, FpOk X pins H b) → tn i s.heap → J.go i H →
    wpAny (model P w) X.A (pyNext (.ref it)) (fun r s1 => ∃ u, r = some u ∧
      wpAny (model P w) X.A (letOwnedTupleGo tg (.ref it) u) (fun _ s2 => ∃ x H', Inv X pins σ H' s2 ∧ RelV x u ∧ J.yld i H x H' ∧ tn (i + 1) s2.heap ∧ ∀ b ∈ fp, H' b = none) E s1) E s
  done : ∀ (X : Cx), X.prog = P → X.w = w → X.K = K → ∀ (i : Nat) (pins : List (Addr × Obj)) (s : Shared) (σ : St) (H : Hp) (E : Value → Shared → Prop), Inv X pins σ H s → (∀ b ∈ fp, FpOk X pins H b) → tn i s.heap → (∃ x1, HotAt X.A x1 s.heap) → J.stop i H →
    wpAny (model P w) X.A (pyNext (.ref it)) (fun r s1 => r = none ∧ Inv X pins σ H s1) E s
  self : ∀ (A : Around) (i : Nat) (s : Shared) (Q : Value → Shared → Prop) (E : Value → Shared → Prop), tn i s.heap → Q (.ref it) s → wpAny (model P w) A (pyIter (.ref it)) Q E s
def PIEZ (X : Cx) (pins : List (Addr × Obj)) (σ : St) (tg : Expr) (R : It → Hp → Prop) (itv : Value) (s2 : Shared) : Prop :=
  ∃ (it : Addr) (fp : List Addr) (tn : Nat → Heap → Prop) (J : It) (H' : Hp), itv = .ref it ∧ Inv X pins σ H' s2 ∧ TurnZ X.prog X.w X.K tg J fp it tn ∧ tn 0 s2.heap ∧ (∀ b ∈ fp, FpOk X pins H' b) ∧ R J H'
structure PIZ (X : Cx) (tg iter : Expr) (wi : TI) : Prop where
  run : ∀ (pins : List (Addr × Obj)) (s : Shared) (σ : St) (H : Hp) (R : It → Hp → Prop), Inv X pins σ H s → wi σ H R →
    wpAny (model X.prog X.w) X.A (eval iter X.env) (fun v s1 => wpAny (model X.prog X.w) X.A (pyIter v) (PIEZ X pins σ tg R) X.xe s1) X.xe s
/-- as Itz, the first list ending first -/
def ItzZ (K : PySem.W.Frag) (a b : Addr) : It := ⟨(Itz K a b).go, (Itz K a b).yld, fun i H => ∃ xs : List V, SqL K H a xs ∧ xs.length ≤ i⟩
theorem turn_zipZ {P : Program} {w : World} {K : PySem.W.Frag} {elts : List Expr} {kk : Nat} {tpos : Pos} {a b z TI TO i1 i2 : Addr} (D : ZipApart z TI TO i1 i2 a b) :
    TurnZ P w K (.Tuple elts kk tpos) (ItzZ K a b) [z, TI, TO, i1, i2] z (fun i h => IsZip h z TI TO .none ∧ IsPair h TI (.ref i1) (.ref i2) ∧ (∃ x y, IsPair h TO x y) ∧ h.IsListIter i1 a i ∧ h.IsListIter i2 b i) where
  mem := by simp
  obj := fun i h st c hc => by
    obtain ⟨hz, hTI, ⟨x, y, hTO⟩, ⟨o1, e1, _, d1⟩, ⟨o2, e2, _, d2⟩⟩ := st
    have e' : c = z ∨ c = TI ∨ c = TO ∨ c = i1 ∨ c = i2 := by simpa using hc
    rcases e' with q | q | q | q | q
    · rw [q]; exact ⟨_, hz, fun v q => nomatch q⟩
    · rw [q]; exact ⟨_, hTI, fun v q => nomatch q⟩
    · rw [q]; exact ⟨_, hTO, fun v q => nomatch q⟩
    · rw [q]; exact ⟨o1, e1, fun v q => by rw [d1] at q; cases q⟩
    · rw [q]; exact ⟨o2, e2, fun v q => by rw [d2] at q; cases q⟩
  keep := fun i h h' st k => by
    obtain ⟨hz, hTI, ⟨x, y, hTO⟩, h1, h2⟩ := st
    exact ⟨k z (by simp) _ hz, k TI (by simp) _ hTI, ⟨x, y, k TO (by simp) _ hTO⟩, h1.at fun o q => k i1 (by simp) o q, h2.at fun o q => k i2 (by simp) o q⟩
  item := by
    intro X hP hw hK i pins s σ H E I hf st hg
    subst hP hw hK
    obtain ⟨hz, hTI, ⟨x0, y0, hTO⟩, h1, h2⟩ := st
    obtain ⟨xs, ys, x, y, hqx, hqy, hx, hy⟩ := hg
    obtain ⟨its, rv, p, _⟩ := I.list hqx
    obtain ⟨its2, rv2, p2, _⟩ := I.list hqy
    obtain ⟨u, hu, ru⟩ := rv.get hx
    obtain ⟨u2, hu2, ru2⟩ := rv2.get hy
    have hzl : z < s.heap.objs.size := Heap.lt_size hz
    refine wpAny_pyNext_zip_item D hz hTI hTO h1 h2 p.isList p2.isList (x := u) (y := u2) (by simpa using hu) (by simpa using hu2) fun h' z' TO' h1' h2' hT hsz hk => ?_
    refine ⟨_, rfl, wpAny_letOwnedTupleGo_zip (s := { s with heap := h' }) z' fun h'' z'' sb => ?_⟩
    have hT2 : h''.get? s.heap.objs.size = some { cls := .type "tuple", data := .seq #[u, u2] } := (sb.2 _ (Nat.ne_of_gt hzl)).trans hT
    have new : ObjOk X.prog X.w (upd H s.heap.objs.size (.tup [x, y])) h'' s.heap.objs.size (.tup [x, y]) :=
      ⟨by show 2 ≤ sizeLine; decide, [u, u2], .cons ru (.cons ru2 .nil), ⟨_, hT2, rfl, _, rfl⟩⟩
    have I1 : Inv X pins σ (upd H s.heap.objs.size (.tup [x, y])) { s with heap := h'' } :=
      I.turnedNew (t' := s.toks) (ch := [z, TI, TO, i1, i2]) (fun c o hb q => (sb.2 c (fun q' => hb (by simp [q']))).trans (hk c o (fun q' => hb (by simp [q'])) (fun q' => hb (by simp [q'])) (fun q' => hb (by simp [q'])) (fun q' => hb (by simp [q'])) q)) hf (Nat.le_refl _) new
    refine ⟨.ref s.heap.objs.size, _, I1, rfl, ⟨_, x, y, rfl, I.hok.fresh (Nat.le_refl _), rfl, fun l hl => by rw [I.list_inj hl hqx]; exact hx, fun l hl => by rw [I.list_inj hl hqy]; exact hy⟩, ⟨z'', ?_, ⟨u, u2, ?_⟩, ?_, ?_⟩, fun c hcm => ?_⟩
    · exact (sb.2 _ D.TIz).trans (hk _ _ D.TIz D.TITO D.TIi1 D.TIi2 hTI)
    · exact (sb.2 _ D.TOz).trans TO'
    · exact h1'.at fun o q => (sb.2 _ D.i1z).trans q
    · exact h2'.at fun o q => (sb.2 _ D.i2z).trans q
    · have hlt : c < s.heap.objs.size := by
        have e' : c = z ∨ c = TI ∨ c = TO ∨ c = i1 ∨ c = i2 := by simpa using hcm
        rcases e' with q | q | q | q | q
        · rw [q]; exact hzl
        · rw [q]; exact Heap.lt_size hTI
        · rw [q]; exact Heap.lt_size hTO
        · rw [q]; obtain ⟨_, e1, _⟩ := h1; exact Heap.lt_size e1
        · rw [q]; obtain ⟨_, e2, _⟩ := h2; exact Heap.lt_size e2
      rw [upd_ne (Nat.ne_of_lt hlt)]
      exact (hf c hcm).1
  done := by
    intro X hP hw hK i pins s σ H E I hf st hot hg
    subst hP hw hK
    obtain ⟨hz, hTI, ⟨x0, y0, hTO⟩, h1, h2⟩ := st
    obtain ⟨xs, hqx, hend⟩ := hg
    obtain ⟨its, rv, p, _⟩ := I.list hqx
    obtain ⟨x1, hot⟩ := hot
    have l1 := rv.length
    have he : its.toArray[i]? = none := by simp; omega
    exact pyNext_zip_end_hot hot D hz hTI hTO h1 p.isList he fun h' hk => ⟨rfl, I.turnedL (t' := s.toks) (ch := [z, TI, TO, i1, i2]) (fun c o hb q =>
      hk c o (fun q' => hb (by simp [q'])) (fun q' => hb (by simp [q'])) (fun q' => hb (by simp [q'])) (fun q' => hb (by simp [q'])) q) hf⟩
  self := fun A i s Q E st h => wpAny_pyIter_zip st.1 h
def iZipZ (K : PySem.W.Frag) (ta : TA) : TI := fun σ H R => ta σ H fun vs H1 => ∃ a b xs ys, vs = [.ref a, .ref b] ∧ SqL K H1 a xs ∧ SqL K H1 b ys ∧ R (ItzZ K a b) H1
theorem pi_zipZ {X : Cx} {e e2 : Expr} {ta : TA} {p pos tpos : Pos} {elts : List Expr} {kk : Nat} (hg : Gl X "zip") (hm : X.mg "zip" = none) (ha : PA X [e, e2] ta)
    (hs : starEach [e, e2] X.env = (false, eval e X.env) :: starEach [e2] X.env := by rfl) (hpl : (backTo pos (starEach [e2] X.env)).any (·.1) = false := by rfl) :
    PIZ X (.Tuple elts kk tpos) (.Call (.Name "zip" p) [e, e2] [] pos) (iZipZ X.K ta) := by
  refine ⟨fun pins s σ H R I h => ?_⟩
  refine Call_ (ld_blt I hg hm PyProof.Rows.boot_zip (PyProof.Rows.callWith_type1 (thn (ha.run pos pins s σ H _ I h) fun us s1 ⟨vs, H1, I1, r1, q1⟩ => ?_) hs hpl))
  obtain ⟨a, b, xs, ys, ex, hqx, hqy, q⟩ := q1
  subst ex
  cases r1 with
  | cons r rr =>
    cases rr with
    | cons r' rr =>
      cases rr
      cases r
      cases r'
      obtain ⟨its, rv, p1, _⟩ := I1.list hqx
      obtain ⟨its2, rv2, p2, _⟩ := I1.list hqy
      have la : a < s1.heap.objs.size := p1.lt
      have lb : b < s1.heap.objs.size := p2.lt
      refine call_zip_2 p1.isList p2.isList fun h' hz hTI hTO h1 h2 hsz hk => wpAny_pyIter_zip hz ?_
      have I2 : Inv X pins σ H1 { s1 with heap := h' } := I1.kept (t' := s1.toks) hk
      refine ⟨s1.heap.objs.size + 4, [s1.heap.objs.size + 4, s1.heap.objs.size + 2, s1.heap.objs.size + 3, s1.heap.objs.size, s1.heap.objs.size + 1], _, _, H1, rfl, I2, turn_zipZ (PySem.W.ktu_apart s1.heap.objs.size a b la lb), ⟨hz, hTI, ⟨_, _, hTO⟩, h1, h2⟩, fun c hcm => ?_, q⟩
      have e' : c = s1.heap.objs.size + 4 ∨ c = s1.heap.objs.size + 2 ∨ c = s1.heap.objs.size + 3 ∨ c = s1.heap.objs.size ∨ c = s1.heap.objs.size + 1 := by simpa using hcm
      have hle : s1.heap.objs.size ≤ c := by
        rcases e' with z | z | z | z | z
        · rw [z]; exact Nat.le_add_right _ _
        · rw [z]; exact Nat.le_add_right _ _
        · rw [z]; exact Nat.le_add_right _ _
        · rw [z]; exact Nat.le_refl _
        · rw [z]; exact Nat.le_add_right _ _
      exact I1.fpOk hle (I1.hok.fresh hle)
section
variable {X : Cx}
theorem lc_coreZ {pins : List (Addr × Obj)} {s : Shared} {σ : St} {H : Hp} {Q : VK} {elt tg iter : Expr} {ifs : List Expr} {scope : Scope} {own : List (Str × Nat)} {pos pos' : Pos} {wi : TI} {g : TG} {tt : TT} {te : TE} {use : Option (Value → Sem Unit)} {Qf : Value → Shared → Prop}
    (hot : HotC X) (hN : X.N.Nodup) (I : Inv X pins σ H s) (hi : PIZ X tg iter wi) (ok : BlkOk X.N X.env.scope scope own)
    (hg : ∀ (s : Shared) (H : Hp) (C : Addr) (cl : List (Str × Addr)) (fp : List Addr), HotB (X.blk s H scope (compEnvC scope cl C X.env) fp) → PG (X.blk s H scope (compEnvC scope cl C X.env) fp) tg g) (ht : ∀ (s : Shared) (H : Hp) (C : Addr) (cl : List (Str × Addr)) (fp : List Addr), PTs (X.blk s H scope (compEnvC scope cl C X.env) fp) ifs tt)
    (he : ∀ (s : Shared) (H : Hp) (C : Addr) (cl : List (Str × Addr)) (fp : List Addr), PE (X.blk s H scope (compEnvC scope cl C X.env) fp) elt te) (hs : ∀ x, foldedSetIterable iter X.env x = pure x)
    (h : tLc wi g tt te (own.map (·.2)) σ H Q)
    (hRR : ∀ D C s' m H', Inv X pins σ H' s' → Q (.ref D) H' → s'.heap.Ns C m → FpOk X pins H' C → compPost (model X.prog X.w) X.A X.xe use Qf (.ref D) C (.ok .next) s') :
    wpAny (model X.prog X.w) X.A (comprehension (.ListComp elt [⟨tg, iter, ifs, 0⟩] scope pos) scope X.env pos' (newList []) false (eval iter X.env) use) Qf X.xe s := by
  have hfree : ∀ y ∈ scope.names, y.2 = .free → ∃ c, X.env.cells.lookup y.1 = some c := fun y hy e => by
    rcases ok.free y hy e with k | k
    · exact I.ok.has _ (.inl k)
    · exact I.ok.has _ (.inr k)
  refine wpAny_comprehension_free (use := use) rfl hs (closure_ok hfree) ok.kind (fun y hy e => by rw [ok.uniq y hy, e])
    (thn (hi.run pins s σ H _ I h) fun xv s1 hx => thn hx fun itv s2 h2 => ?_)
  obtain ⟨it, fp, tn, J, H2, e, I2, T, st2, f2, q⟩ := h2
  subst e
  refine wpAny_newObj_type (newEnv_comp ?_) (by show 0 ≤ sizeLine; decide)
  generalize hD : s2.heap.objs.size = D
  have hDn : H2 D = none := I2.hok.fresh (Nat.le_of_eq hD)
  obtain ⟨W, ⟨m0, w0⟩, turn⟩ := q D hDn
  -- the new list
  generalize hs3 : ({ s2 with heap := s2.heap.push { cls := .type "list", data := .seq ([] : List Value).toArray } } : Shared) = s3
  have I3 : Inv X pins σ (upd H2 D (.lst [])) s3 := by
    rw [← hs3]
    refine I2.laid (t' := s2.toks) (fun b o e => Heap.get?_push_of_some _ e) (Nat.le_of_eq hD) ⟨Nat.zero_le _, [], 0, .nil, ?_⟩
    rw [← hD]
    exact Heap.get?_push_size _ rfl
  have h3 : s3.heap = s2.heap.push { cls := .type "list", data := .seq ([] : List Value).toArray } := by rw [← hs3]
  have sz : ∀ b ∈ fp, b < s2.heap.objs.size := fun b hb => by
    obtain ⟨o, e, _⟩ := T.obj _ _ st2 b hb
    exact Heap.lt_size e
  have f3 : ∀ b ∈ fp, FpOk X pins (upd H2 D (.lst [])) b ∧ b < s3.heap.objs.size := fun b hb => by
    have hlt := sz b hb
    refine ⟨⟨?_, (f2 b hb).2⟩, by rw [h3, Heap.size_push]; exact Nat.lt_succ_of_lt hlt⟩
    rw [upd_ne (by rw [← hD]; exact Nat.ne_of_lt hlt)]
    exact (f2 b hb).1
  have st3 : tn 0 s3.heap := T.keep _ _ _ st2 fun b _ o e => by rw [h3]; exact Heap.get?_push_of_some _ e
  have I4 := block_start I3 ok hN f3
  have hotb : HotB (X.blk s3 (upd H2 D (.lst [])) scope (compEnvC scope (cellsFrom (s3.heap.objs.size + 1) scope.names (cloFrom X.env.cells scope.names [])) s3.heap.objs.size X.env) fp) := by
    obtain ⟨p, hh, hp⟩ := hot
    obtain ⟨g1, g2, g3⟩ := I3.pin p (List.mem_append_left _ hp)
    exact ⟨p, hh, g1, g2, fun hm => (f3 p.1 hm).1.2.2.2.2.2 p (List.mem_append_left _ hp) rfl⟩
  have pg := hg s3 (upd H2 D (.lst [])) s3.heap.objs.size (cellsFrom (s3.heap.objs.size + 1) scope.names (cloFrom X.env.cells scope.names [])) fp hotb
  have pt := ht s3 (upd H2 D (.lst [])) s3.heap.objs.size (cellsFrom (s3.heap.objs.size + 1) scope.names (cloFrom X.env.cells scope.names [])) fp
  have pe := he s3 (upd H2 D (.lst [])) s3.heap.objs.size (cellsFrom (s3.heap.objs.size + 1) scope.names (cloFrom X.env.cells scope.names [])) fp
  show codeAny _ _ (.compStart (.ListComp elt [⟨tg, iter, ifs, 0⟩] scope pos) 0 (.ref it) (.ref D) (compEnvC scope (cellsFrom (s3.heap.objs.size + 1) scope.names (cloFrom X.env.cells scope.names [])) s3.heap.objs.size X.env)) (compPost (model X.prog X.w) X.A X.xe use Qf (.ref D) s3.heap.objs.size) { s3 with heap := pushCells (s3.heap.push { cls := .type "dict", data := .dict #[] }) scope.names }
  have nfp : ∀ b ∈ fp, (upd H2 D (.lst [])) b = none := fun b hb => (f3 b hb).1.1
  generalize hce : compEnvC scope (cellsFrom (s3.heap.objs.size + 1) scope.names (cloFrom X.env.cells scope.names [])) s3.heap.objs.size X.env = ce at I4 pg pt pe ⊢
  have cL : ce.locals = s3.heap.objs.size := by subst hce; rfl
  generalize hH3 : upd H2 D (.lst []) = H3 at I3 I4 pg pt pe w0 nfp f3
  generalize hs4 : ({ s3 with heap := pushCells (s3.heap.push { cls := .type "dict", data := .dict #[] }) scope.names } : Shared) = s4 at I4 ⊢
  have st4 : tn 0 s4.heap := T.keep _ _ _ st3 fun b _ o e => by rw [← hs4]; exact pushCells_keeps _ _ _ _ (Heap.get?_push_of_some _ e)
  have stat : ∀ {σ' : St} {H' : Hp} {s' : Shared}, Inv (X.blk s3 H3 scope ce fp) [] σ' H' s' → (∀ b ∈ fp, H' b = none) → ∀ b ∈ fp, FpOk (X.blk s3 H3 scope ce fp) [] H' b := fun {σ' H' s'} I' hn b hb =>
    ⟨hn b hb, (I'.ok.exf b hb).1, I'.ok.exfs b hb, .inl hb, fun x c e => (I'.ok.exf b hb).2 x c e, fun p hp => absurd (show p ∈ ([] : List (Addr × Obj)) ++ [] from hp) (by simp)⟩
  have hotB : ∀ {σ' : St} {H' : Hp} {s' : Shared}, Inv (X.blk s3 H3 scope ce fp) [] σ' H' s' → ∃ x1, HotAt X.A x1 s'.heap := fun {σ' H' s'} I' => by
    obtain ⟨p, ⟨hh, v1, e1, c1⟩, hp⟩ := hot
    obtain ⟨g1, g2, g3⟩ := I3.pin p (List.mem_append_left _ hp)
    have nfp1 : p.1 ∉ fp := fun hm => (f3 p.1 hm).1.2.2.2.2.2 p (List.mem_append_left _ hp) rfl
    obtain ⟨sl, z⟩ := I'.base.any g1 g2 nfp1
    exact ⟨p.1, hh, _, v1, z, e1, c1⟩
  have loop : codeAny (model X.prog X.w) X.A (.compLoop (.ListComp elt [⟨tg, iter, ifs, 0⟩] scope pos) 0 (.ref it) (.ref D) ce) (compPost (model X.prog X.w) X.A X.xe use Qf (.ref D) s3.heap.objs.size) s4 := by
    refine compLoop_any (fun n s' => ∃ i H', Inv (X.blk s3 H3 scope ce fp) [] (wipe σ (own.map (·.2))) H' s' ∧ tn i s'.heap ∧ (∀ b ∈ fp, H' b = none) ∧ W i n H') ?_ m0 ⟨0, H3, I4, st4, nfp, w0⟩
    rintro n s5 ⟨i, H5, I5, st5, n5, w5⟩
    rcases turn i n H5 w5 with ⟨stop, qq⟩ | ⟨go, Nx, hNx, step⟩
    · have td := T.done (X.blk s3 H3 scope ce fp) rfl rfl rfl i [] s5 _ H5 (fun _ _ => False) I5 (stat I5 n5) st5 (hotB I5) stop
      refine thnF td fun r s6 ⟨hr, I6⟩ => ?_
      subst hr
      -- back in the def's context
      have I7 : Inv X pins σ H5 s6 := I3.call' (ch := fp) I6.os I6.base I6.hok I6.bare fun b hb => ⟨(f3 b hb).1.2.2.2.1, (f3 b hb).1.2.1, (f3 b hb).1.2.2.2.2.1, (f3 b hb).1.2.2.2.2.2⟩
      have nC : H5 s3.heap.objs.size = none := by
        have z : H5 ce.locals = none := I6.free
        rw [cL] at z
        exact z
      obtain ⟨m, hn, _⟩ := I6.loc
      have hn : s6.heap.Ns ce.locals m := hn
      rw [cL] at hn
      exact hRR D s3.heap.objs.size s6 m H5 I7 qq hn (I3.fpOk (Nat.le_refl _) nC)
    · have ti := T.item (X.blk s3 H3 scope ce fp) rfl rfl rfl i [] s5 _ H5 (fun _ _ => False) I5 (stat I5 n5) st5 go
      refine thnF ti fun r s6 ⟨u, hr, h6⟩ => ?_
      subst hr
      refine thnF h6 fun _ s7 ⟨x, H7, I7, r7, y7, st7, n7⟩ => ?_
      have I7' := I7.pinned (stat I7 n7) (T.obj _ _ st7)
      refine thnF (pg.run _ s7 _ H7 x u _ I7' r7 (step x H7 y7)) fun _ s8 ⟨σ8, H8, I8, hw8, q8⟩ => ?_
      refine thnF (pt.run _ s8 σ8 H8 _ I8 q8) fun b s9 ⟨H9, I9, q9⟩ => ?_
      -- the turn's end
      have fin : ∀ {s' : Shared} {H' : Hp}, Inv (X.blk s3 H3 scope ce fp) ([] ++ pinsAt fp s7.heap) σ8 H' s' → Nx H' → ∃ m, m < n ∧ ∃ i H', Inv (X.blk s3 H3 scope ce fp) [] (wipe σ (own.map (·.2))) H' s' ∧ tn i s'.heap ∧ (∀ b ∈ fp, H' b = none) ∧ W i m H' := fun {s' H'} I' nx => by
        obtain ⟨m', hm, w'⟩ := hNx H' nx
        have pin' : ∀ b ∈ fp, ∀ o, s7.heap.get? b = some o → s'.heap.get? b = some o ∧ H' b = none := fun b hb o e =>
          let z := I'.pin (b, o) (List.mem_append_right _ (List.mem_append_right _ (mem_pinsAt hb e)))
          ⟨z.1, z.2.1⟩
        have hl : (wipe σ (own.map (·.2))).length = σ8.length := by rw [← hw8, wipe_length]
        refine ⟨m', hm, i + 1, H', (I'.unpinned (pins := [])).weak hl (fun j v e => ?_), T.keep _ _ _ st7 fun b hb o e => (pin' b hb o e).1, fun b hb => ?_, w'⟩
        · rw [← hw8] at e
          exact (wipe_some e).1
        · obtain ⟨o, e, _⟩ := T.obj _ _ st7 b hb
          exact (pin' b hb o e).2
      cases b with
      | false =>
        simp only [Bool.false_eq_true, if_false] at q9 ⊢
        exact fin I9 q9
      | true =>
        simp only [if_true] at q9 ⊢
        refine thnF (pe.run _ s9 σ8 H9 _ I9 q9) fun z s10 ⟨yv, H10, I10, r10, acc, hD10, hz10, nx⟩ => ?_
        exact app_ok (X := X.blk s3 H3 scope ce fp) I10 hD10 hz10 r10 fun s11 I11 => fin I11 nx
  exact codeAny_compStart_list loop (T.self X.A 0 _ _ _ st4 loop)
theorem pe_lcZ {elt tg iter : Expr} {ifs : List Expr} {scope : Scope} {own : List (Str × Nat)} {pos : Pos} {wi : TI} {g : TG} {tt : TT} {te : TE} (hot : HotC X) (hN : X.N.Nodup) (hi : PIZ X tg iter wi) (ok : BlkOk X.N X.env.scope scope own)
    (hg : ∀ (s : Shared) (H : Hp) (C : Addr) (cl : List (Str × Addr)) (fp : List Addr), HotB (X.blk s H scope (compEnvC scope cl C X.env) fp) → PG (X.blk s H scope (compEnvC scope cl C X.env) fp) tg g) (ht : ∀ (s : Shared) (H : Hp) (C : Addr) (cl : List (Str × Addr)) (fp : List Addr), PTs (X.blk s H scope (compEnvC scope cl C X.env) fp) ifs tt)
    (he : ∀ (s : Shared) (H : Hp) (C : Addr) (cl : List (Str × Addr)) (fp : List Addr), PE (X.blk s H scope (compEnvC scope cl C X.env) fp) elt te) (hs : ∀ x, foldedSetIterable iter X.env x = pure x := by intro _; rfl) :
    PE X (.ListComp elt [⟨tg, iter, ifs, 0⟩] scope pos) (tLc wi g tt te (own.map (·.2))) := by
  refine ⟨fun pins s σ H Q I h => ?_⟩
  rw [eval_ListComp]
  refine lc_coreZ hot hN I hi ok hg ht he hs h fun D C s' m H' I' q hn f => ⟨m, hn, fun h'' sb => ?_⟩
  obtain ⟨f0, f1, f2, f3, f4, f5⟩ := f
  exact ⟨.ref D, H', I'.turned (t' := s'.toks) (fun b o hb e => (sb.2 b hb).trans e) f0 f1 f3 f4 f5, rfl, q⟩
end
end VS

set_option maxHeartbeats 4000000
namespace VS
open PySem PySem.Spec PyProof.Rows L2 HotX L2H
/-- what the clauses wish of an exception of the body, one after the other; slot i is the name's -/
def wManyA (K : PySem.W.Frag) (i : Nat) (Wout : WX) (D : Ends) : List (Value × (Addr → Value → Option Addr → TS)) → WX
  | [] => Wout
  | (c, ts) :: r => fun cls d σ H => ∃ b, PySem.W.exmOne K cls c = some b ∧ (b = true → ∀ a, H a = none → ts a cls d { nx := fun σ' H' => D.nx (σ'.set i none) H', rt := D.rt, bk := fun σ' H' => D.bk (σ'.set i none) H', ct := fun σ' H' => D.ct (σ'.set i none) H' } (σ.set i (some (.ref a))) H) ∧ (b = false → wManyA K i Wout D r cls d σ H)
inductive HdsA (X : Cx) (n : Str) : List ExceptHandler → List (Value × (Addr → Value → Option Addr → TS)) → Prop
  | nil : HdsA X n [] []
  | cons {x : Str} {c : Value} {ts : Addr → Value → Option Addr → TS} {b₀ : Stmt} {suite : List Stmt} {np pos' : Pos} {hds : List ExceptHandler} {l : List (Value × (Addr → Value → Option Addr → TS))} (hc : Names X x c)
      (hsu : ∀ (a : Addr) (oe : Obj) (cls : Value) (d : Option Addr) (pn : List (Addr × Obj)), L2N.Zn cls d oe → (∃ vs, oe.data = .fields vs) → PSs (X.suite a ((a, oe) :: pn)) (b₀ :: suite) (ts a cls d)) (r : HdsA X n hds l) :
      HdsA X n (.ExceptHandler (some (.Name x np)) (some n) (b₀ :: suite) pos' :: hds) ((c, ts) :: l)
section
open L2N
variable {X : Cx} {n : Str} {i : Nat} {body : List Stmt} {h₀ : ExceptHandler} {hds : List ExceptHandler} {l : List (Value × (Addr → Value → Option Addr → TS))} {pos : Pos} {tb : WX → TS} {Wout : WX}
theorem ps_try_manyAs (hs : X.stack = X.env :: X.outer) (hf : X.env.frame = some X.env.locals) (hN : X.N.Nodup) (hi : X.N[i]? = some n) (hln : X.env.kindOf n = some .local) (tk : L2N.Takes X Wout)
    (hb : ∀ (W : WX) (pn : List (Addr × Obj)) (xe : Value → Shared → Prop), L2N.Takes (X.tr pn xe) W → PassesOwn (model X.prog X.w) X.A X.env xe → PSs (X.tr pn xe) body (tb W))
    (hh : HdsA X n (h₀ :: hds) l) : PS X (.Try body (h₀ :: hds) [] [] pos) (fun D σ H => tb (wManyA X.K i Wout D l) D σ H) := by
  refine ⟨fun pins s σ H D I h => ?_⟩
  have ok := I.ok
  have hloc : Loc X.env.scope n := .inl hln
  have hfr : X.A.frames = some (X.env :: X.outer) := by rw [ok.frames, hs]
  refine wpAny_Try_except ?_
  refine wpAny_mono ((hb (wManyA X.K i Wout D l) (X.pn ++ pins) (fun e s₁ => wpAny (model X.prog X.w) X.A (noteFrame e X.env) (fun _ s₂ => wpAny (model X.prog X.w) X.A (setFlight e none) (fun _ s₃ =>
    wpAny (model X.prog X.w) X.A (handleBy e X.env (h₀ :: hds)) (SP X pins D) X.xe s₃) X.xe s₂) X.xe s₁) (fun u s' xx => ?_) PassesOwn.looking).run [] s σ H D (I.toTry _) h) (fun f s1 hsp => ?_) (fun e s1 he => he)
  · -- the catch
    obtain ⟨a, B, sI, pins', σ', H', cls, d, rfl, J', nb, up, sky, na, os, ag, w⟩ := xx
    have J : Inv X pins σ' H' sI := J'.ofTry ok
    have sky' : Sky B (X.env :: X.outer) a (Zn cls d) X.env.locals s'.heap := by rw [← hs]; exact sky
    show wpAny (model X.prog X.w) X.A (noteFrame (.ref a) X.env) _ _ _
    refine Sky.land Zn.steady hfr hf sky' fun h3 fl3 up3 => ?_
    have J3 : Inv X pins σ' H' { s' with heap := h3 } := J.landed nb fl3.1 (up.trans up3) os ag
    obtain ⟨oe3, vs3, he3, hz3, hd3⟩ := fl3.there
    have notFr : ∀ {h : Heap} {o : Obj} {vs : Array Value}, h.FunFrames B (X.env :: X.outer) → h.get? a = some o → o.data = .fields vs → a ∉ frs (X.env :: X.outer) := fun {h o vs} ff e dd hm => by
      obtain ⟨_, o', e', hnf⟩ := ff.mem hm
      rw [e] at e'; cases e'
      exact hnf _ dd
    have nfr := notFr fl3.2.2.1 he3 hd3
    have nL : a ≠ X.env.locals := fun z => nfr (List.mem_filterMap.mpr ⟨X.env, List.mem_cons_self, by rw [hf, z]⟩)
    have nF : a ∉ X.fs := fun hm => by
      obtain ⟨e, he, q⟩ := List.mem_filterMap.mp hm
      exact nfr (List.mem_filterMap.mpr ⟨e, List.mem_cons_of_mem _ he, q⟩)
    have S3 := J3.suite he3 hd3 na nL nF
    have go : ∀ {hds' : List ExceptHandler} {l' : List (Value × (Addr → Value → Option Addr → TS))}, HdsA X n hds' l' → wManyA X.K i Wout D l' cls d σ' H' →
        wpAny (model X.prog X.w) X.A (handleBy (.ref a) X.env hds') (SP X pins D) X.xe { s' with heap := h3 } := by
      intro hds' l' hk
      induction hk with
      | nil =>
        intro w
        refine wpAny_handleBy_nil ?_
        obtain ⟨k1, k2, k3, oe, vs, T, oT, ts', he, hz, hd, h1, hr⟩ := id fl3
        unfold PySem.passOn
        refine wpAny_bind (wpAny_field he hd h1 ?_)
        rw [if_neg (show ¬ ((Value.ref T == Value.none) = true) from by simp)]
        have fin : wpAny (model X.prog X.w) X.A (setFlight (.ref a) X.env.frame) (fun _ s4 => wpAny (model X.prog X.w) X.A (throw (.ref a) : Sem Flow) (SP X pins D) X.xe s4) X.xe { s' with heap := h3 } := by
          rw [hf]
          refine HandSPX.setFlight_upZ fl3 fun h4 hh4 up4 => wpAny_throw (tk _ _ ?_)
          exact ⟨a, B, sI, pins, σ', H', cls, d, rfl, J, nb, (up.trans up3).trans up4, .inr (.inr (by rw [hs]; exact hh4)), na, os, ag, w⟩
        first
          | exact wpAny_bind (wpAny_pure (wpAny_bind fin))
          | exact wpAny_bind fin
      | @cons x c ts b₀ suite np pos' hds2 l2 hc hsu r ih =>
        intro w
        obtain ⟨b, hb1, hyes, hno⟩ := w
        refine wpAny_handleBy_cons (codeAny_handlers_test ?_) (by intro q; cases q)
        have LT : PySem.W.Looks (model X.prog X.w) h3 (typeOf (.ref a)) cls := fun A Q E s k q => wpAny_typeOf_ref (k _ _ he3) (by rw [hz3.1]; exact q)
        have LM := PySem.W.exm_one (M := model X.prog X.w) (J3.kIn) LT hb1
        have test : ∀ {Q : Value → Shared → Prop} {E : Value → Shared → Prop}, Q c { s' with heap := h3 } → wpAny (model X.prog X.w) (X.A.mark (some (.ref a))) (eval (.Name x np) X.env) Q E { s' with heap := h3 } := fun {Q E} q => by
          obtain ⟨hg, hdbg, hm | ⟨hm, hv, hnn⟩⟩ := hc
          · exact ld_glob (X := X.suite a ((a, oe3) :: (X.pn ++ pins))) S3 hg hm q hdbg
          · exact ld_blt (X := X.suite a ((a, oe3) :: (X.pn ++ pins))) S3 hg hm hv q hnn hdbg
        refine test (LM.here ?_)
        cases b with
        | true =>
          refine codeAny_handlers_suite_as ?_
          refine HandSPX.lands_againZ fl3 fun h4 fl4 up4 => ?_
          have J4 : Inv X pins σ' H' { s' with heap := h4 } := J.landed nb fl4.1 ((up.trans up3).trans up4) os ag
          obtain ⟨oe4, vs4, he4, hz4, hd4⟩ := fl4.there
          have S4 := J4.suite he4 hd4 na nL nF
          refine store_ok (X := X.suite a ((a, oe4) :: (X.pn ++ pins))) (v := .ref a) S4 hN hi hloc rfl (fun s5 S5 => ?_) (.inr hln)
          refine wpAny_mono ((hsu a oe4 cls d (X.pn ++ pins) hz4 ⟨_, hd4⟩).run [] s5 _ H' _ S5 (hyes rfl a na)) (fun f s6 hsp => ?_) (fun _ _ z => False.elim z)
          have end_ : ∀ {σ6 : St} {H6 : Hp} {Q : Shared → Prop}, Inv (X.suite a ((a, oe4) :: (X.pn ++ pins))) [] σ6 H6 s6 → (∀ s7, Inv X pins (σ6.set i none) H6 s7 → Q s7) →
              wpAny (model X.prog X.w) X.A (do bindName X.env n .none; unbindBehindTheSuite X.env n pos') (fun _ s7 => Q s7) X.xe s6 := fun {σ6 H6 Q} S6 hq => gone_ok (S6.unsuite ok) hN hi hln hq
          cases f with
          | next =>
            obtain ⟨σ6, H6, S6, q6⟩ := hsp
            exact end_ S6 fun s7 J7 => ⟨_, _, J7, q6⟩
          | brk =>
            obtain ⟨σ6, H6, S6, q6⟩ := hsp
            exact end_ S6 fun s7 J7 => ⟨_, _, J7, q6⟩
          | cont =>
            obtain ⟨σ6, H6, S6, q6⟩ := hsp
            exact end_ S6 fun s7 J7 => ⟨_, _, J7, q6⟩
          | ret u =>
            obtain ⟨v6, σ6, H6, S6, r6, q6⟩ := hsp
            exact end_ S6 fun s7 J7 => ⟨_, _, _, J7, r6, q6⟩
        | false =>
          show wpAny _ X.A (handleBy (.ref a) X.env hds2) _ _ _
          exact ih (hno rfl)
    exact go hh w
  · cases f with
    | next =>
      obtain ⟨σ', H', J', q⟩ := hsp
      exact wpAny_execs_nil ⟨σ', H', J'.ofTry ok, q⟩
    | brk =>
      obtain ⟨σ', H', J', q⟩ := hsp
      exact ⟨σ', H', J'.ofTry ok, q⟩
    | cont =>
      obtain ⟨σ', H', J', q⟩ := hsp
      exact ⟨σ', H', J'.ofTry ok, q⟩
    | ret u =>
      obtain ⟨v, σ', H', J', r, q⟩ := hsp
      exact ⟨v, σ', H', J'.ofTry ok, r, q⟩
end
structure FnP (p : Addr × Obj) (P : Program) (w : World) (K : PySem.W.Frag) (mg : Str → Option Value) (base : Heap) (CX : CXT) (k : Nat) (f : Addr) (fd : FuncData) (ps : List Str) (sp : Sp) : Prop where
  len : ∀ vs H Q E, sp vs H Q E → vs.length = ps.length
  run : ∀ (A : Around) (outer : List PySem.Env) (s : Shared) (H : Hp) (args : Args) (us : List Value) (vs : List V) (Q : VK) (E : XK), RoomH k A → Hot1 A p → PinOk outer H s p → Env0 P w K mg base A outer s H → BindsTo s fd args (ps.zip us) → Vals vs us → sp vs H Q E →
    codeAny (model P w) A (.call (.ref f) args) (CR CX outer P w H s Q E) s
theorem FnP.mono {p : Addr × Obj} {P : Program} {w : World} {K : PySem.W.Frag} {mg : Str → Option Value} {base : Heap} {CX : CXT} {k j : Nat} {f : Addr} {fd : FuncData} {ps : List Str} {sp : Sp} (h : FnP p P w K mg base CX k f fd ps sp) (hk : k ≤ j) : FnP p P w K mg base CX j f fd ps sp := ⟨h.len, fun A outer s H args us vs Q E hr => h.run A outer s H args us vs Q E (hr.mono hk)⟩
theorem fn_ofP {CX : CXT} {P : Program} {w : World} {K : PySem.W.Frag} {mg : Str → Option Value} {base : Heap} {k : Nat} {f : Addr} {name qual : Str} {params : Arguments} {body : List Stmt} {scope : Scope} {dV kV doc pm cdv ct oc : Value} {an od : Option Addr}
    {osl : Array (Option Value)} {N ps : List Str} {sp : Sp} {p : Addr × Obj} (lk : K.lookup f = some ⟨oc, od, .func (PySem.W.fnOf name qual params body scope dV kV doc pm an cdv ct), osl⟩) (hcd : PySem.W.codeIn K cdv qual = true) (S : FnScope N ps scope)
    (len : ∀ vs H Q E, sp vs H Q E → vs.length = ps.length)
    (hbody : ∀ (A : Around) (outer : List PySem.Env) (s : Shared) (H : Hp) (vs : List V) (Q : VK) (E : XK), Hot1 A p → RoomH k (A.deeper (envOfC qual scope s.heap.objs.size f cdv)) → sp vs H Q E →
      ∃ t, PSs (cxH CX P w K mg base N qual scope f cdv A outer s H E p) body t ∧ t { nx := fun _ H' => Q .non H', rt := Q } (L2.start N vs) H) :
    FnP p P w K mg base CX (k + 1) f (PySem.W.fnOf name qual params body scope dV kV doc pm an cdv ct) ps sp := by
  refine ⟨len, fun A outer s H args us vs Q E hr hot hpin e0 hb r hsp => ?_⟩
  have hl := len _ _ _ _ hsp
  have KX : K.In s.heap := e0.mod.kin.keeps fun b o e => (e0.bs b o e).1
  have lim : s.heap.NoLimit := e0.mod.nolimit.keeps fun b o e => (e0.bs b o e).1
  have hkind : ∀ y ∈ ps.zip us, scope.names.lookup y.1 = some .local ∨ (scope.names.lookup y.1 = some .cell ∧ ((cellsFrom (s.heap.objs.size + 1) scope.names []).lookup y.1).isSome = true) := fun ⟨n, v⟩ hy => by
    rcases S.par n (List.of_mem_zip hy).1 with q | q
    · exact .inl q
    · exact .inr ⟨q, PySem.W.cellsFrom_some _ _ _ (.inl q)⟩
  refine codeAny_call_function hr.depth (KX _ _ lk) rfl S.co S.gen rfl (PySem.W.codeRec_of KX hcd) (hb _ _ _ _ ?_)
  refine wpAny_newFunctionEnv_cells S.kind hkind fun env he s1 x => ?_
  subst he
  refine ⟨lim.keeps x.toInCall.keep, codeAny_func ?_⟩
  obtain ⟨t, ht, hq⟩ := hbody A outer s H vs Q E hot (hr.deeper _) hsp
  have I : Inv (cxH CX P w K mg base N qual scope f cdv A outer s H E p) [] (L2.start N vs) H s1 := inv_startH S hpin e0 hl r x
  refine wpAny_mono (ht.run [] s1 (L2.start N vs) H _ I hq) (fun fl s' hs => ?_) fun e s' hs => hs
  have fin : ∀ {σ' : St} {H' : Hp} {v : V} {u : Value}, Inv (cxH CX P w K mg base N qual scope f cdv A outer s H E p) [] σ' H' s' → RelV v u → Q v H' → CE outer P w H s Q u s' :=
    fun {σ' H' v u} J rv q => ⟨v, H', J.os, J.bare, J.base, J.hok, rv, q⟩
  cases fl with
  | ret u =>
    obtain ⟨v, σ', H', J, rv, q⟩ := hs
    exact fin J rv q
  | next =>
    obtain ⟨σ', H', J, q⟩ := hs
    exact fin (v := V.non) (u := Value.none) J rfl q
  | brk =>
    obtain ⟨_, _, _, q⟩ := hs
    exact False.elim q
  | cont =>
    obtain ⟨_, _, _, q⟩ := hs
    exact False.elim q

section
variable {X : Cx} {CX : CXT} {k : Nat} {f C : Addr} {fd : FuncData} {ps : List Str} {sp : Sp} {E : St → XK} {x m : Str} {q pos apos : Pos} {e o : Expr} {es : List Expr} {ta : TE} {t : TA} {p : Addr × Obj}
theorem run_fnP {pins : List (Addr × Obj)} {σ : St} {H : Hp} {s : Shared} {Q : VK} {us : List Value} {vs : List V} (F : FnP p X.prog X.w X.K X.mg X.base CX k f fd ps sp) (hr : RoomH k X.A) (hot : Hot1 X.A p) (hp : p ∈ X.pn) (hb : Binds X.K fd ps []) (hx : PassesAt CX X σ (E σ))
    (I : Inv X pins σ H s) (r : Vals vs us) (h : sp vs H Q (E σ)) : wpAny (model X.prog X.w) X.A (call (.ref f) us) (EP X pins σ Q) X.xe s := by
  have hl : us.length = ps.length := by rw [← r.length]; exact F.len _ _ _ _ h
  have b := hb s us I.kIn (by rw [List.append_nil]; exact hl)
  rw [List.append_nil] at b
  have P1 := I.pin p (List.mem_append_left _ hp)
  have hpin : PinOk X.stack H s p := ⟨P1.1, P1.2.1, fun hm => (List.mem_cons.mp (I.stkSub p.1 hm)).elim P1.2.2.1 P1.2.2.2.1, P1.2.2.2.2⟩
  refine wpAny_call (codeAny_mono (F.run X.A X.stack s H ⟨us, []⟩ us vs Q (E σ) hr hot hpin I.env0 b r h) fun r s' hq => ?_)
  cases r with
  | error e => exact hx pins H s e s' I hq
  | ok fl =>
    cases fl with
    | ret u => exact I.after hq
    | next => exact False.elim hq
    | brk => exact False.elim hq
    | cont => exact False.elim hq
theorem pe_callP (F : FnP p X.prog X.w X.K X.mg X.base CX k f fd ps sp) (hr : RoomH k X.A) (hot : Hot1 X.A p) (hp : p ∈ X.pn) (hg : Gl X x) (hm : X.mg x = some (.ref f)) (hk : PySem.W.keepIn X.K (.ref f) = true) (hb : Binds X.K fd ps []) (hx : ∀ σ, PassesAt CX X σ (E σ))
    (ha : PA X (e :: es) t) (hdb : (x == ("__debug__" : Str)) = false := by decide) (he : starEach (e :: es) X.env = (false, eval e X.env) :: starEach es X.env := by rfl) (hpl : (backTo pos (starEach es X.env)).any (·.1) = false := by rfl) :
    PE X (.Call (.Name x q) (e :: es) [] pos) (tCallS sp E t) := by
  refine ⟨fun pins s σ H Q I h => ?_⟩
  refine wpAny_Call_Name_kw (ld_glob I hg hm ?_ hdb)
  refine PySem.W.callWith_K (h₀ := X.base) I.ok.mod.kin hk (thn (ha.run pos pins s σ H _ I h) fun us s1 ⟨vs, H1, I1, r, q⟩ => ⟨I1.kIn, ?_⟩) he hpl
  exact run_fnP F hr hot hp hb (hx σ) I1 r q
end
end VS

set_option maxHeartbeats 4000000
namespace VS
open PySem PySem.Spec PyProof.Rows L2 LamX
section
variable {X : Cx} {pins : List (Addr × Obj)} {σ : L2.St} {H : Hp} {s : Shared}
/-- the lambda is made: its code object is new, or found in the table -/
theorem lam_make2D {T : List (Addr × Str)} {c P : Addr} {params : Arguments} {body : Expr} {scope : Scope} {pos : Pos} {E : Value → Shared → Prop} {Q : Value → Shared → Prop} (I : Inv X pins σ H s) (TB : TabB X.base X.mg c P) (hcode : X.env.code = .ref c)
    (hm : (P, X.env.qual ++ "<lambda>") ∈ T) (hu : ∀ p ∈ T, p.1 = P → p.2 = X.env.qual ++ "<lambda>") (hT : Tabs T H) (hdef : defaultsOf params X.env = ([], [])) (hfree : ∀ y ∈ scope.names, y.2 = .free → ∃ c, X.env.cells.lookup y.1 = some c)
    (h : ∀ (f c' : Addr) (pm ctv : Value) (H1 : Hp) (s' : Shared), Inv X pins σ H1 s' → ExtN H H1 → (∀ a, H1 a = none → H a = none) → Tabs T H1 →
      s'.heap.get? f = some (PySem.W.kla_obj "<lambda>" (X.env.qual ++ "<lambda>") params body scope (cloFrom X.env.cells scope.names []) pm c' ctv) → H1 f = none → f ∉ frs X.stack → H1 c' = some (CodeO c' (X.env.qual ++ "<lambda>")) → Q (.ref f) s') :
    wpAny (model X.prog X.w) X.A (eval (.Lambda params body scope pos) X.env) Q E s := by
  obtain ⟨ps, hP, ht, ha⟩ := hT _ hm
  refine PySem.W.kla_eval hdef ?_
  have bP : s.heap.BuiltinsAt X.mg P := TB.bm.keeps I.bk
  have hP' : s.heap.get? P = some { cls := .none, data := .fields ps } := I.hok P _ hP
  have nofr : ∀ f, s.heap.objs.size ≤ f → f ∉ frs X.stack := fun f hf z => by
    rcases List.mem_cons.mp (I.stkSub _ z) with e | e
    · have h1 := I.lt
      rw [← e] at h1
      exact Nat.lt_irrefl _ (Nat.lt_of_lt_of_le h1 hf)
    · exact I.nofs hf e
  cases hc : codeAmong pos ps.toList with
  | none =>
    refine PySem.W.kla_makeFunction (mg := X.mg) (c := c) (P := P) (ps := ps) (closure_ok hfree) I.ok.glob (I.mod.glob.keeps I.bk) hcode (TB.code.keeps I.bk) hP' ht hc TB.gP bP fun c' ctv h' tk hx hge hlt hrec htb => ?_
    obtain ⟨c2, oc, vs, t, e2, hoc, hd, hv⟩ := hrec
    cases e2
    have hsz : s.heap.objs.size ≤ h'.objs.size := Nat.le_trans hge (Nat.le_of_lt hlt)
    have nC : H c' = none := I.hok.fresh hge
    have I1 := inv_table (t' := tk) (more := #[rawInt pos.line, rawInt pos.col, .ref c']) (h' := h'.push (PySem.W.kla_obj "<lambda>" (X.env.qual ++ "<lambda>") params body scope (cloFrom X.env.cells scope.names []) ((X.mg "__name__").getD .none) c' ctv)) I hP
      (fun b o hb e => Heap.get?_push_of_some _ (hx b o hb e)) (Heap.get?_push_of_some _ htb) hge ⟨oc, vs, t, Heap.get?_push_of_some _ hoc, hd, hv⟩
    have hE : ExtN H (upd (upd H P (.tbl (ps ++ #[rawInt pos.line, rawInt pos.col, .ref c']))) c' (CodeO c' (X.env.qual ++ "<lambda>"))) := fun b o e n => by
      rw [upd_ne (ne_of_none e nC), upd_ne (fun z => n ps (Option.some.inj (e.symm.trans (by rw [z]; exact hP))))]
      exact e
    have eL : (ps ++ #[rawInt pos.line, rawInt pos.col, .ref c']).toList = ps.toList ++ [rawInt pos.line, rawInt pos.col, .ref c'] := by simp
    refine h h'.objs.size c' ((X.mg "__name__").getD .none) ctv _ _ I1 hE (fun a e => by
      by_cases h1 : a = c'
      · rw [h1, upd_same] at e; cases e
      · rw [upd_ne h1] at e
        by_cases h2 : a = P
        · rw [h2, upd_same] at e; cases e
        · rw [upd_ne h2] at e; exact e) (fun p hp => ?_) (Heap.get?_push_size _ rfl) ?_ (nofr _ hsz) upd_same
    · by_cases hb : p.1 = P
      · rw [hu p hp hb, hb]
        refine ⟨_, by rw [upd_ne (ne_of_none hP nC), upd_same], by rw [eL]; exact PySem.TriplesOk_snoc _ _ _ _ ht, fun p' cv hcv => ?_⟩
        rw [eL] at hcv
        rcases among_app _ ht hcv with z | z
        · obtain ⟨c0, e1, e2⟩ := ha p' cv z
          exact ⟨c0, e1, hE _ _ e2 codeO_ne⟩
        · exact ⟨c', z, upd_same⟩
      · obtain ⟨ps', a1, a2, a3⟩ := hT p hp
        refine ⟨ps', by rw [upd_ne (ne_of_none a1 nC), upd_ne hb]; exact a1, a2, fun p' cv hcv => ?_⟩
        obtain ⟨c0, e1, e2⟩ := a3 p' cv hcv
        exact ⟨c0, e1, hE _ _ e2 codeO_ne⟩
    · have n1 : h'.objs.size ≠ c' := Nat.ne_of_gt hlt
      have n2 : h'.objs.size ≠ P := Nat.ne_of_gt (Nat.lt_of_lt_of_le (Heap.lt_size hP') hsz)
      rw [upd_ne n1, upd_ne n2]
      exact I.hok.fresh hsz
  | some cv =>
    obtain ⟨c', e, hco⟩ := ha pos cv hc
    subst e
    refine PySem.W.kla_makeFunctionHit (mg := X.mg) (c := c) (P := P) (ps := ps) (closure_ok hfree) I.ok.glob (I.mod.glob.keeps I.bk) hcode (TB.code.keeps I.bk) hP' ht hc bP fun ctv h' tk hx hsz => ?_
    have I1 : Inv X pins σ H { s with heap := h'.push (PySem.W.kla_obj "<lambda>" (X.env.qual ++ "<lambda>") params body scope (cloFrom X.env.cells scope.names []) ((X.mg "__name__").getD .none) c' ctv), toks := tk } := I.kept fun b o e => Heap.get?_push_of_some _ (hx b o e)
    exact h h'.objs.size c' ((X.mg "__name__").getD .none) ctv H _ I1 (ExtN.refl H) (fun _ e => e) hT (Heap.get?_push_size _ rfl) (I.hok.fresh hsz) (nofr _ hsz) hco
end
/-- the context of the lambda's body, entered at s from the frames outer -/
def lamCxN (X : Cx) (A : Around) (outer : List PySem.Env) (s : Shared) (H : Hp) (E : XK) (scope : Scope) (f c' : Addr) : Cx where
  prog := X.prog
  w := X.w
  K := X.K
  mg := X.mg
  base := X.base
  A := A.deeper (lamEnv X scope s.heap.objs.size f c')
  N := X.N
  s_0 := s
  H_0 := H
  env := lamEnv X scope s.heap.objs.size f c'
  outer := outer
  stack := lamEnv X scope s.heap.objs.size f c' :: outer
  ex := []
  fn := fun _ => false
  calm := true
  pn := []
  xe := fun e s' => wpAny (model X.prog X.w) (A.deeper (lamEnv X scope s.heap.objs.size f c')) (leaving (lamEnv X scope s.heap.objs.size f c') e) (fun _ s'' => L2N.CX X.prog X.w outer H s E e s'') (fun e' s'' => L2N.CX X.prog X.w outer H s E e' s'') s'
section
variable {X : Cx} {pins : List (Addr × Obj)} {σ : L2.St} {H HZ : Hp} {s s1 : Shared}
theorem lam_startN {A : Around} {outer : List PySem.Env} {E : XK} {scope : Scope} {f c' : Addr} {h₁ : Heap} {tk : Nat} (I : Inv X pins σ H s) (L : LamS X.env.scope scope) (e0 : Env0 X.prog X.w X.K X.mg X.base A outer s1 HZ) (hd : A.handled = none)
    (un : Un (frs X.stack) [] H HZ s.heap s1.heap) (hns : h₁.Ns s1.heap.objs.size fun y => ([] : List (Str × Value)).reverse.lookup y) (kp : ∀ b o, s1.heap.get? b = some o → h₁.get? b = some o) :
    Inv (lamCxN X A outer s1 HZ E scope f c') [] σ HZ { s1 with heap := h₁, toks := tk } := by
  have hfree := L.has I.ok
  have cm : ∀ {y c}, (cloFrom X.env.cells scope.names []).lookup y = some c → X.env.cells.lookup y = some c := fun {y c} e => by
    rcases cloFrom_mem (PySem.mem_of_lookup e) with hm | ⟨h1, h2⟩
    · cases hm
    · obtain ⟨c1, hc⟩ := hfree _ h1 rfl
      have hc : X.env.cells.lookup y = some c1 := hc
      have e2 : c = c1 := by
        rw [h2, hc] <;> rfl
      rw [e2]
      exact hc
  have look : ∀ {y}, scope.names.lookup y = some .free → ∃ c, (cloFrom X.env.cells scope.names []).lookup y = some c := fun {y} hl => by
    have hy : (y, NameKind.free) ∈ scope.names := PySem.mem_of_lookup hl
    exact mem_lookup (cloFrom_has (cells := X.env.cells) (acc := []) hy)
  have cellK : ∀ {c : Addr} {v : Option Value}, H c = none → s.heap.IsCell c v → h₁.IsCell c v := fun {c v} n ⟨o, ho, hd⟩ => by
    obtain ⟨sl, q⟩ := un.any ho n (by simp)
    exact ⟨_, kp _ _ q, hd⟩
  have noA : ∀ b : Addr, b ∉ (lamCxN X A outer s1 HZ E scope f c').ex := fun b z => absurd (show b ∈ ([] : List Addr) from z) (by simp)
  refine ⟨⟨e0.mod, L.kind, rfl, rfl, Nat.le_refl _, fun y z c e1 e2 => I.ok.inj y z c (cm e1) (cm e2), fun y hy => ?_, fun y c z _ => ?_, fun _ => hd, Around.frames_deeper e0.frames, .inr ⟨rfl, rfl⟩, fun b z => absurd z (noA b), e0.bs, e0.bsz, fun b _ _ => noA b,
      fun b z => absurd z (noA b), e0.funs, e0.frf⟩,
    rfl, e0.bare, Un.kept kp, ⟨_, hns, fun i y v e1 e2 e3 => ?_⟩, fun y c e => ?_, e0.hok.fresh (Nat.le_refl _), fun y c e => ?_, fun q hq => absurd (show q ∈ ([] : List (Addr × Obj)) ++ [] from hq) (by simp), e0.hok.kept kp, I.len⟩
  · have hy : scope.names.lookup y = some .cell ∨ scope.names.lookup y = some .free := hy
    rcases hy with hy | hy
    · exact absurd rfl (L.own _ (PySem.mem_of_lookup hy)).2
    · exact look hy
  · have z : false = true := z
    cases z
  · have e3 : Vis scope y := e3
    rcases e3 with k | k | k
    · exact absurd rfl (L.own _ (PySem.mem_of_lookup k)).1
    · exact absurd rfl (L.own _ (PySem.mem_of_lookup k)).2
    · obtain ⟨m, hn, hl⟩ := I.loc
      have hvis : Vis X.env.scope y := (L.free _ (PySem.mem_of_lookup k) rfl).elim (fun k => .inr (.inl k)) (fun k => .inr (.inr k))
      obtain ⟨w', r, q⟩ := hl i y v e1 e2 hvis
      obtain ⟨c2, h2⟩ := look k
      refine ⟨w', r, .inr ⟨.inr k, c2, h2, ?_⟩⟩
      have c1 := cm h2
      rcases q with ⟨k', _⟩ | ⟨_, c3, e', z⟩
      · have k' : X.env.scope.names.lookup y = some .local := k'
        rcases L.free _ (PySem.mem_of_lookup k) rfl with k2 | k2 <;> rw [show X.env.scope.names.lookup y = _ from k2] at k' <;> cases k'
      · rw [c1] at e'
        cases e'
        exact cellK (I.freeC y _ c1) z
  · obtain ⟨w', z⟩ := I.cell y c (cm e)
    exact ⟨w', cellK (I.freeC y c (cm e)) z⟩
  · obtain ⟨v, o, ho, hd⟩ := I.cell y c (cm e)
    exact un.free c o ho (I.freeC y c (cm e)) (by simp)
/-- x(), in the def that got the lambda: Z is that def's context, entered at s -/
theorem pe_actN {CXg : CXT} {Eg : XK} {Ng : List Str} {qg : Str} {sg : Scope} {g f c' : Addr} {cdg pm ctv : Value} {params : Arguments} {body : Expr} {scope : Scope} {k i : Nat} {a : Str} {pn : List (Addr × Obj)} {xe : Value → Shared → Prop} {W : WX} {E : XK} {tb : TE} {p1 p2 : Pos}
    (I : Inv X pins σ H s) (L : LamS X.env.scope scope) (hf : s.heap.get? f = some (PySem.W.kla_obj "<lambda>" (X.env.qual ++ "<lambda>") params body scope (cloFrom X.env.cells scope.names []) pm c' ctv)) (hfn : H f = none) (hfr : f ∉ frs X.stack)
    (hbind : bindArgs (PySem.W.kla_fn "<lambda>" (X.env.qual ++ "<lambda>") params body scope (cloFrom X.env.cells scope.names []) pm (.ref c') ctv) ⟨[], []⟩ = pure [])
    (tk : L2N.Takes ((cxOf CXg X.prog X.w X.K X.mg X.base Ng qg sg g cdg X.A X.stack s H Eg).tr pn xe) W) (hW : ∀ cls d σ' H', E cls d H' → W cls d σ' H') (hr : Room (k + 1) (X.A.deeper (envOfC qg sg s.heap.objs.size g cdg)))
    (hbody : ∀ (A : Around) (outer : List PySem.Env) (s : Shared) (H : Hp), Room k (A.deeper (lamEnv X scope s.heap.objs.size f c')) → PE (lamCxN X A outer s H E scope f c') body tb)
    (hN : Ng[i]? = some a) (hv : Vis sg a) (hd : (a == ("__debug__" : Str)) = false := by decide) (hcd : (a == ("__classdict__" : Str)) = false := by decide) :
    PE ((cxOf CXg X.prog X.w X.K X.mg X.base Ng qg sg g cdg X.A X.stack s H Eg).tr pn xe) (.Call (.Name a p1) [] [] p2)
      (fun σZ HZ Q => σZ[i]? = some (some (.ref f)) ∧ HZ c' = some (CodeO c' (X.env.qual ++ "<lambda>")) ∧ tb σ HZ Q) := by
  refine ⟨fun pinsZ sZ σZ HZ Q IZ h => ?_⟩
  obtain ⟨hs, hc, ht⟩ := h
  refine wpAny_Call_Name_kw (thn ((pe_var (pos := p1) (i := i) hN hv hd hcd).run pinsZ sZ σZ HZ (fun v H1 => v = .ref f ∧ H1 = HZ) IZ ⟨.ref f, hs, rfl, rfl⟩) fun u s1 ⟨v, H1, I1, r1, q1⟩ => ?_)
  obtain ⟨ev, eH⟩ := q1
  subst ev
  rw [eH] at I1
  obtain rfl : u = Value.ref f := r1
  have of1 : s1.heap.get? f = some (PySem.W.kla_obj "<lambda>" (X.env.qual ++ "<lambda>") params body scope (cloFrom X.env.cells scope.names []) pm c' ctv) := I1.base.keep f _ hf hfn hfr (fun z => nomatch (show f ∈ ([] : List Addr) from z))
  refine PySem.W.callWith_F0 ⟨_, _, _, _, of1⟩ ?_
  have un : Un (frs X.stack) [] H HZ s.heap s1.heap := I1.base
  obtain ⟨⟨oc, vs, t, hoc, hdc, hvc⟩, _, _⟩ := I1.hok c' _ hc
  have rc : codeAny (model X.prog X.w) (X.A.deeper (envOfC qg sg s.heap.objs.size g cdg)) (.call (.ref f) ⟨[], []⟩) (CR (L2N.CX X.prog X.w) (envOfC qg sg s.heap.objs.size g cdg :: X.stack) X.prog X.w HZ s1 Q E) s1 := by
    refine PySem.W.kla_callFunE hr.depth of1 rfl L.co L.gen rfl ⟨c', oc, vs, t, rfl, hoc, hdc, hvc⟩ ?_
    rw [hbind]
    refine wpAny_pure (wpAny_newFunctionEnv (fun y hy => (L.own y hy).2) (fun y hy => absurd hy (by simp)) (fun h₁ hns hsb => ⟨I1.nolimit.fresh _ hsb, ?_⟩) L.kind)
    show codeAny _ _ (.expr body (lamEnv X scope s1.heap.objs.size f c')) _ _
    have kp : ∀ b o, s1.heap.get? b = some o → h₁.get? b = some o := fun b o e => hsb.extBut b o (Nat.ne_of_lt (Heap.lt_size e)) (Heap.get?_push_of_some _ e)
    have J : Inv (lamCxN X (X.A.deeper (envOfC qg sg s.heap.objs.size g cdg)) (envOfC qg sg s.heap.objs.size g cdg :: X.stack) s1 HZ E scope f c') [] σ HZ { s1 with heap := h₁, toks := s1.toks + ([] : List (Str × Value)).length } :=
      lam_startN I L I1.env0 hr.hd un hns kp
    refine PySem.W.kla_codeExpr (wpAny_mono ((hbody _ _ s1 HZ (hr.deeper _)).run [] _ _ HZ Q J ht) (fun v s' hq => ?_) fun e s' hq => hq)
    obtain ⟨w', H', J', rv, q⟩ := hq
    exact ⟨w', H', J'.os, J'.bare, J'.base, J'.hok, rv, q⟩
  have hx : Passes (L2N.CX X.prog X.w) ((cxOf CXg X.prog X.w X.K X.mg X.base Ng qg sg g cdg X.A X.stack s H Eg).tr pn xe) E := L2N.passes_call tk hW
  refine wpAny_call (codeAny_mono rc fun r s' hq => ?_)
  cases r with
  | error e => exact hx pinsZ σZ HZ s1 e s' I1 hq
  | ok fl =>
    cases fl with
    | ret u => exact I1.after hq
    | next => exact False.elim hq
    | brk => exact False.elim hq
    | cont => exact False.elim hq
end
/-- the def that calls what it got: a calls it; TT: what it makes of the lambda's reading -/
def GivesToN (X : Cx) (Ng : List Str) (x : Str) (sg : Scope) (g : Addr) (cdg : Value) (bg : List Stmt) (a : Str) (q : Str) (TT : (XK → Hp → VK → Prop) → Hp → VK → Prop) : Prop :=
  ∀ (f c' : Addr) (s : Shared) (H : Hp) (Q : VK) (tl : XK → Hp → VK → Prop),
    (∀ (W : WX) (pn : List (Addr × Obj)) (xe : Value → Shared → Prop) (E : XK) (p1 p2 : Pos), L2N.Takes ((cxOf C8.CX0 X.prog X.w X.K X.mg X.base Ng x sg g cdg X.A X.stack s H C8.E0).tr pn xe) W → (∀ cls d σ' H', E cls d H' → W cls d σ' H') →
      PE ((cxOf C8.CX0 X.prog X.w X.K X.mg X.base Ng x sg g cdg X.A X.stack s H C8.E0).tr pn xe) (.Call (.Name a p1) [] [] p2) (fun σZ HZ Q => σZ[0]? = some (some (.ref f)) ∧ HZ c' = some (CodeO c' q) ∧ tl E HZ Q)) →
    H c' = some (CodeO c' q) → TT tl H Q →
    ∃ t, PSs (cxOf C8.CX0 X.prog X.w X.K X.mg X.base Ng x sg g cdg X.A X.stack s H C8.E0).nox bg t ∧ t { nx := fun _ H' => Q .non H', rt := Q } (L2.start Ng [.ref f]) H
def tLamN (T : List (Addr × Str)) (TT : (XK → Hp → VK → Prop) → Hp → VK → Prop) (t : XK → TE) : TE := fun σ H Q => Tabs T H ∧ ∀ H1, ExtN H H1 → (∀ a, H1 a = none → H a = none) → Tabs T H1 → TT (fun E H' Q' => t E σ H' Q') H1 Q
section
variable {X : Cx}
/-- x(lambda: body) -/
theorem pe_lamcallN {T : List (Addr × Str)} {TT : (XK → Hp → VK → Prop) → Hp → VK → Prop} {x a : Str} {g c P : Addr} {k : Nat} {pg : Arguments} {bg : List Stmt} {sg : Scope} {dV kV doc pm cdv ct oc : Value} {an od : Option Addr} {osl : Array (Option Value)} {Ng : List Str}
    {params : Arguments} {body : Expr} {scope : Scope} {t : XK → TE} {p lpos pos : Pos} (hg : Gl X x) (hm : X.mg x = some (.ref g)) (hk : PySem.W.keepIn X.K (.ref g) = true)
    (lk : X.K.lookup g = some ⟨oc, od, .func (PySem.W.fnOf x x pg bg sg dV kV doc pm an cdv ct), osl⟩) (hcg : PySem.W.codeIn X.K cdv x = true) (hb : L2.Binds X.K (PySem.W.fnOf x x pg bg sg dV kV doc pm an cdv ct) [a] []) (Sg : FnScope Ng [a] sg) (hNg : Ng[0]? = some a) (hva : Vis sg a)
    (hG : GivesToN X Ng x sg g cdv bg a (X.env.qual ++ "<lambda>") TT)
    (TB : TabB X.base X.mg c P) (hcode : X.env.code = .ref c) (hmT : (P, X.env.qual ++ "<lambda>") ∈ T) (hu : ∀ p ∈ T, p.1 = P → p.2 = X.env.qual ++ "<lambda>") (hr : Room (k + 2) X.A) (L : LamS X.env.scope scope) (hdef : defaultsOf params X.env = ([], []))
    (hbind : ∀ (q : Str) (cl : List (Str × Addr)) (pm cv ctv : Value), bindArgs (PySem.W.kla_fn "<lambda>" q params body scope cl pm cv ctv) ⟨[], []⟩ = pure [])
    (hbody : ∀ (A : Around) (outer : List PySem.Env) (s : Shared) (H : Hp) (E : XK) (f c' : Addr), Room k (A.deeper (lamEnv X scope s.heap.objs.size f c')) → PE (lamCxN X A outer s H E scope f c') body (t E))
    (hdb : (x == ("__debug__" : Str)) = false := by decide) (hd : (a == ("__debug__" : Str)) = false := by decide) (hcd : (a == ("__classdict__" : Str)) = false := by decide) :
    PE X (.Call (.Name x p) [.Lambda params body scope lpos] [] pos) (tLamN T TT t) := by
  refine ⟨fun pins s σ H Q I h => ?_⟩
  obtain ⟨hT, h⟩ := h
  refine wpAny_Call_Name_kw (ld_glob I hg hm ?_ hdb)
  refine PySem.W.callWith_K (h₀ := X.base) I.ok.mod.kin hk ?_ (by rfl) (by rfl)
  show wpAny _ _ (spliced ((false, eval (.Lambda params body scope lpos) X.env) :: backTo pos (starEach [] X.env))) _ _ s
  refine Calls.spliced_cons (lam_make2D I TB hcode hmT hu hT hdef (L.has I.ok) fun f c' pm' ctv H1 s' I1 eN dN T1 hf hfn hfr hco => ?_)
  refine Calls.spliced_nil ⟨I1.kIn, ?_⟩
  have rc : codeAny (model X.prog X.w) X.A (.call (.ref g) ⟨[.ref f], []⟩) (CR C8.CX0 X.stack X.prog X.w H1 s' Q C8.E0) s' := by
    refine run_ofS (N := Ng) (ps := [a]) (us := [.ref f]) (vs := [.ref f]) lk hcg Sg hr I1.env0 (hb s' [.ref f] I1.kIn rfl) (.cons rfl .nil) rfl fun hr' => ?_
    obtain ⟨t', ht', hq'⟩ := hG f c' s' H1 Q (fun E H' Q' => t E σ H' Q') (fun W pn xe E p1 p2 tk hW => pe_actN (i := 0) I1 L hf hfn hfr (hbind _ _ _ _ _) tk hW hr' (fun A outer s H hr2 => hbody A outer s H E f c' hr2) hNg hva hd hcd) hco (h H1 eN dN T1)
    exact ⟨t', ht'.nox, hq'⟩
  refine wpAny_call (codeAny_mono rc fun r s2 hq => ?_)
  cases r with
  | error e => exact (show False from hq).elim
  | ok fl =>
    cases fl with
    | ret u => exact I1.after hq
    | next => exact False.elim hq
    | brk => exact False.elim hq
    | cont => exact False.elim hq

end
end VS

set_option maxHeartbeats 4000000
namespace VS
open PySem PySem.Spec PyProof.Rows L2 HotX L2H

def strsOf : List D → Option (List Str)
  | [] => some []
  | .str x :: l => (strsOf l).map (x :: ·)
  | _ :: _ => none
theorem strsOf_eq : ∀ {l : List D} {ns : List Str}, strsOf l = some ns → l = ns.map .str
  | [], _, h => by cases h; rfl
  | d :: l, ns, h => by
    cases d with
    | str b =>
      have h : (strsOf l).map (b :: ·) = some ns := h
      cases e : strsOf l with
      | none => rw [e] at h; cases h
      | some cs => rw [e] at h; cases h; rw [strsOf_eq e]; rfl
    | _ => cases h
theorem reps_strs {Z : Wd} {β : List Addr} {H : Hp} : ∀ {ns : List Str}, Reps Z β H (ns.map V.str) (ns.map .str)
  | [] => .nil
  | _ :: _ => .cons (.str _) reps_strs
def splitD : D → D → Option (List D)
  | .str a, .str b => if (b.length == 0) = false ∧ a.length ≤ lim then some ((Txt.split a b).map .str) else none
  | _, _ => none
def joinD : D → D → Option D
  | .str a, d => match itemsD d with
    | some l => match strsOf l with
      | some ys => if (ys.map (·.length)).sum + ys.length * a.length ≤ 16777216 then some (.str (Txt.join a ys)) else none
      | none => none
    | none => none
  | _, _ => none
/-- o.m(e), o a text -/
@[simp] def rM1 {α : Type} (g : D → D → Option α) (ro re : Env → Sto → Res D) : Env → Sto → Res α := fun ρ S => (ro ρ S).bind fun a S1 => match a with
  | .str x => (re ρ S1).bind fun b S2 => optR (g (.str x) b) S2
  | _ => .stuck
section
variable {X : Cx} {F : Fr} {W : WX} {o e : Expr} {apos pos : Pos} {ro re : Env → Sto → Res D}
theorem ve_split (ho : VF X F W o ro) (he : VF X F W e re) (hs : starEach [e] X.env = [(false, eval e X.env)] := by rfl) (hbase : attributeBase o "split" X.env (eval o X.env) = eval o X.env := by rfl) (hline : (apos.endLine == pos.line) = true := by rfl) :
    VO X F W (.Call (.Attribute o "split" apos) [e] [] pos) (rM1 splitD ro re) := pe_imp (pe_split ho he hs hbase hline) fun σ H Q q => by
  obtain ⟨ρ, S, β, hr, hp⟩ := q
  refine tG_bind anti_O hr hp fun x H1 d1 S1 β1 r1 e1 c1 p1 => ?_
  cases d1 with
  | str a =>
    cases c1
    refine ⟨⟨a, rfl⟩, ?_⟩
    refine tG_bind anti_O r1 p1 fun y H2 d2 S2 β2 r2 e2 c2 p2 => ?_
    cases d2 with
    | str b =>
      cases c2
      have p2 : Post (zX X F) F W ρ σ β2 H2 (RO (zX X F)) (optR (if (b.length == 0) = false ∧ a.length ≤ lim then some ((Txt.split a b).map D.str) else none) S2) Q := p2
      split at p2
      · rename_i hz
        refine ⟨a, b, rfl, rfl, hz.1, ?_, fun p np => ?_⟩
        · have h2 : lim + 2 ≤ sizeLine := by decide
          have := hz.2
          omega
        · exact tG_end r2 p2 (.new np) ⟨p, _, rfl, np, upd_same, reps_strs, r2.sto.notin np⟩
      · exact p2.elim
    | _ => exact p2.elim
  | _ => exact p1.elim
theorem ve_join (ho : VF X F W o ro) (he : VX X F W e re) (hs : starEach [e] X.env = [(false, eval e X.env)] := by rfl) (hbase : attributeBase o "join" X.env (eval o X.env) = eval o X.env := by rfl) (hline : (apos.endLine == pos.line) = true := by rfl) :
    VF X F W (.Call (.Attribute o "join" apos) [e] [] pos) (rM1 joinD ro re) := pe_imp (pe_join ho he hs hbase hline) fun σ H Q q => by
  obtain ⟨ρ, S, β, hr, hp⟩ := q
  refine tG_bind anti_F hr hp fun x H1 d1 S1 β1 r1 e1 c1 p1 => ?_
  cases d1 with
  | str a =>
    cases c1
    refine ⟨⟨a, rfl⟩, ?_⟩
    refine tG_bind anti_F r1 p1 fun y H2 d2 S2 β2 r2 e2 c2 p2 => ?_
    have p2 : Post (zX X F) F W ρ σ β2 H2 (RF (zX X F)) (optR (match itemsD d2 with
      | some l => match strsOf l with
        | some ys => if (ys.map (·.length)).sum + ys.length * a.length ≤ 16777216 then some (D.str (Txt.join a ys)) else none
        | none => none
      | none => none) S2) Q := p2
    cases ei : itemsD d2 with
    | none => rw [ei] at p2; exact p2.elim
    | some l =>
      rw [ei] at p2
      have p2 : Post (zX X F) F W ρ σ β2 H2 (RF (zX X F)) (optR (match strsOf l with
        | some ys => if (ys.map (·.length)).sum + ys.length * a.length ≤ 16777216 then some (D.str (Txt.join a ys)) else none
        | none => none) S2) Q := p2
      cases es : strsOf l with
      | none => rw [es] at p2; exact p2.elim
      | some ys =>
        rw [es] at p2
        have p2 : Post (zX X F) F W ρ σ β2 H2 (RF (zX X F)) (optR (if (ys.map (·.length)).sum + ys.length * a.length ≤ 16777216 then some (D.str (Txt.join a ys)) else none) S2) Q := p2
        split at p2
        · rename_i hz
          have p3 := p2
          cases d2 with
          | tup m =>
            cases ei
            cases c2.rep (fun _ z => by cases z) with
            | tup h g =>
              rw [strsOf_eq es] at g
              exact ⟨a, _, ys, rfl, rfl, .inr (by rw [← g.strs]; exact h), hz, p3 _ H2 β2 r2 (.refl _ _) (.str _)⟩
          | lst m =>
            cases ei
            obtain ⟨p, vs, rfl, g, h⟩ := c2.ls.sq
            rw [strsOf_eq es] at g
            exact ⟨a, _, ys, rfl, rfl, .inl (by rw [← g.strs]; exact h), hz, p3 _ H2 β2 r2 (.refl _ _) (.str _)⟩
          | _ => cases ei
        · exact p2.elim
  | _ => exact p1.elim
end

def zipDZ : List D → Option (List D)
  | [.lst l, .lst m] => if l.length ≤ m.length then some (zipF l m) else none
  | _ => none
theorem itzZ_D {Z : Wd} {a b : Addr} {l m : List D} {G : List Addr → Hp → Prop} (hle : l.length ≤ m.length) (h : ∀ β H, G β H → ∃ vs ws, SqL Z.K H a vs ∧ Reps Z β H vs l ∧ SqL Z.K H b ws ∧ Reps Z β H ws m) : ItD Z (ItzZ Z.K a b) (zipF l m) G where
  go := (itz_D h).go
  yld := (itz_D h).yld
  stop := fun i β H g hi => by
    obtain ⟨vs, ws, h1, h2, h3, h4⟩ := h β H g
    rw [zipF_len] at hi
    exact ⟨vs, h1, by rw [h2.length]; omega⟩
abbrev VIeZ (X : Cx) (F : Fr) (W : WX) (tg it : Expr) (r : Env → Sto → Res (List D)) : Prop := PIZ X tg it (tG (zX X F) F W (RIe (zX X F)) r)
section
variable {X : Cx} {F : Fr} {W : WX} {e e2 tg it elt : Expr} {elts : List Expr} {kk : Nat} {tpos p pos : Pos} {r : Env → Sto → Res (List D)}
theorem piz_imp {tg it : Expr} {t t' : TI} (h : PIZ X tg it t) (m : ∀ σ H Q, t' σ H Q → t σ H Q) : PIZ X tg it t' := ⟨fun pins s σ H Q I q => h.run pins s σ H Q I (m _ _ _ q)⟩
theorem vie_zipZ (ha : VAX X F W [e, e2] r) (hm : X.mg "zip" = none) (hg : Gl X "zip" := by rfl) (hs : starEach [e, e2] X.env = (false, eval e X.env) :: starEach [e2] X.env := by rfl) (hpl : (backTo pos (starEach [e2] X.env)).any (·.1) = false := by rfl) :
    VIeZ X F W (.Tuple elts kk tpos) (.Call (.Name "zip" p) [e, e2] [] pos) (rCl zipDZ r) := piz_imp (pi_zipZ hg hm ha hs hpl) fun σ H Q q => by
  obtain ⟨ρ, S, β, hr, hp⟩ := q
  refine tG_bind anti_Ie hr hp fun x H1 d S1 β1 r1 e1 c1 p1 => ?_
  cases ed : zipDZ d with
  | none => rw [ed] at p1; exact p1.elim
  | some m =>
    rw [ed] at p1
    match d, ed, c1 with
    | [.lst l, .lst l2], ed, c1 =>
      have ed : (if l.length ≤ l2.length then some (zipF l l2) else none) = some m := ed
      split at ed
      · rename_i hle
        cases ed
        cases c1 with
        | cons q t =>
          cases t with
          | cons q2 t =>
            cases t
            obtain ⟨a, vs, rfl, g, h⟩ := q.ls.sq
            obtain ⟨a2, vs2, rfl, g2, h2⟩ := q2.ls.sq
            exact ⟨a, a2, vs, vs2, rfl, h, h2, tG_end r1 p1 (.refl _) ⟨fun β H => LsE (zX X F) a l β H ∧ LsE (zX X F) a2 l2 β H, itzZ_D hle fun β H ⟨g1, g2⟩ => by
              obtain ⟨vs, q1, q2⟩ := lsE_sq g1
              obtain ⟨ws, q3, q4⟩ := lsE_sq g2
              exact ⟨vs, ws, q1, q2, q3, q4⟩, ⟨q.ls, q2.ls⟩, and_stE lsE_st lsE_st⟩⟩
      · cases ed
theorem vg_tupH {es : List Expr} {k n : Nat} {ix : List Nat} {gs : List D → Env → Option Env} {pos : Pos} (hb : HotB X) (h : VGs X F es ix gs) (hl : GLen gs n) (hn : (assignEach es X.env).length = n := by rfl) (hst : (assignEach es X.env).findIdx? (·.1) = none := by rfl) : VG X F (.Tuple es k pos) ix (gT gs) :=
  pg_imp (pg_tupH hb h hn hst) fun v σ H Q ⟨ρ, S, β, d, hr, hd, ρ', e, q⟩ => by
    cases hd with
    | tup h1 g1 =>
      have e : gs _ ρ = some ρ' := e
      exact ⟨_, _, rfl, h1, by rw [g1.length, hl _ _ _ e], ρ, S, β, _, hr, g1, ρ', e, q⟩
    | _ => cases e
theorem ve_lcZ {ifs : List Expr} {scope : Scope} {own : List (Str × Nat)} {pos : Pos} {ri : Env → Sto → Res (List D)} {ix : List Nat} {g : D → Env → Option Env} {t : Env → Sto → Res Bool} {e : Env → Sto → Res D} (hc : HotC X) (hN : X.N.Nodup) (hi : VIeZ X F W tg it ri) (ok : BlkOk X.N X.env.scope scope own)
    (hg : InBlk X scope fun Y => HotB Y → VG Y F tg ix g) (ht : InBlk X scope fun Y => VTs Y F W0 ifs t) (he : InBlk X scope fun Y => VF Y F W0 elt e) (hix : ∀ i ∈ ix, i ∈ own.map (·.2)) (hs : ∀ x, foldedSetIterable it X.env x = pure x := by intro _; rfl) :
    VO X F W (.ListComp elt [⟨tg, it, ifs, 0⟩] scope pos) (rLc ri (own.map (·.2)) g t e) :=
  pe_imp (pe_lcZ hc hN hi ok hg ht he hs) fun σ H Q q => lc_read hix q
/-- isinstance(e, C), e the exception that is handled -/
def rKin (i : Nat) (a : Addr) (b : Bool) : Env → Sto → Res D := fun ρ S => match ρ[i]? with
  | some (.val (.adr a')) => if a' = a then .ok (.bl b) S else .stuck
  | _ => .stuck
theorem ve_isE {i : Nat} {x c : Str} {a D0 Cc : Addr} {b : Bool} {p0 p1 p2 pos : Pos} (hcr : CallR X (.builtin "isinstance") (rIsE X.K D0 a)) (hC : X.mg c = some (.ref Cc)) (hb : PySem.W.kitOne X.K (.ref D0) (.ref Cc) = some b) (hm : X.mg "isinstance" = none)
    (hN : X.N[i]? = some x := by rfl) (hv : Vis X.env.scope x := by first | exact Or.inl rfl | exact Or.inr (Or.inl rfl) | exact Or.inr (Or.inr rfl)) (hd : (x == ("__debug__" : Str)) = false := by decide) (hcd : (x == ("__classdict__" : Str)) = false := by decide)
    (hg : Gl X "isinstance" := by rfl) (hgc : Gl X c := by rfl) (hdc : (c == ("__debug__" : Str)) = false := by decide)
    (h1 : starEach [.Name x p1, .Name c p2] X.env = (false, eval (.Name x p1) X.env) :: starEach [.Name c p2] X.env := by rfl) (h2 : starEach [.Name c p2] X.env = (false, eval (.Name c p2) X.env) :: starEach [] X.env := by rfl) (hpl : (backTo pos (starEach [.Name c p2] X.env)).any (·.1) = false := by rfl) :
    VF X F W (.Call (.Name "isinstance" p0) [.Name x p1, .Name c p2] [] pos) (rKin i a b) :=
  pe_imp (pe_callB hcr hg hm (by decide +kernel) (pa_cons (pe_var hN hv hd hcd) (pa_cons (pe_glob (v := .ref Cc) hgc hC rfl hdc) pa_nil h2) h1) (by decide) (by decide) h1 hpl) fun σ H Q q => by
    obtain ⟨ρ, S, β, hr, hp⟩ := q
    unfold rKin at hp
    split at hp
    · rename_i a' e
      split at hp
      · rename_i ea
        subst ea
        obtain ⟨v, e1, r⟩ := hr.slot i _ e
        cases r
        exact ⟨_, e1, .ref Cc, .ref Cc, b, rfl, fun u hu => hu, hb, tG_end hr hp (.refl _) (.bl _)⟩
      · exact hp.elim
    · exact hp.elim
theorem ve_isEB {i : Nat} {x c : Str} {T : String} {a D0 : Addr} {b : Bool} {p0 p1 p2 pos : Pos} (hcr : CallR X (.builtin "isinstance") (rIsE X.K D0 a)) (hC : X.mg c = none) (hT : bootBuiltins c = some (.type T)) (hb : PySem.W.kitOne X.K (.ref D0) (.type T) = some b) (hm : X.mg "isinstance" = none)
    (hN : X.N[i]? = some x := by rfl) (hv : Vis X.env.scope x := by first | exact Or.inl rfl | exact Or.inr (Or.inl rfl) | exact Or.inr (Or.inr rfl)) (hd : (x == ("__debug__" : Str)) = false := by decide) (hcd : (x == ("__classdict__" : Str)) = false := by decide)
    (hg : Gl X "isinstance" := by rfl) (hgc : Gl X c := by rfl) (hdc : (c == ("__debug__" : Str)) = false := by decide) (hnc : c ≠ "__name__" := by decide)
    (h1 : starEach [.Name x p1, .Name c p2] X.env = (false, eval (.Name x p1) X.env) :: starEach [.Name c p2] X.env := by rfl) (h2 : starEach [.Name c p2] X.env = (false, eval (.Name c p2) X.env) :: starEach [] X.env := by rfl) (hpl : (backTo pos (starEach [.Name c p2] X.env)).any (·.1) = false := by rfl) :
    VF X F W (.Call (.Name "isinstance" p0) [.Name x p1, .Name c p2] [] pos) (rKin i a b) :=
  pe_imp (pe_callB hcr hg hm (by decide +kernel) (pa_cons (pe_var hN hv hd hcd) (pa_cons (pe_bltn (v := .ty T) hgc hC hT rfl hnc hdc) pa_nil h2) h1) (by decide) (by decide) h1 hpl) fun σ H Q q => by
    obtain ⟨ρ, S, β, hr, hp⟩ := q
    unfold rKin at hp
    split at hp
    · rename_i a' e
      split at hp
      · rename_i ea
        subst ea
        obtain ⟨v, e1, r⟩ := hr.slot i _ e
        cases r
        exact ⟨_, e1, .ty T, .type T, b, rfl, fun u hu => hu, hb, tG_end hr hp (.refl _) (.bl _)⟩
      · exact hp.elim
    · exact hp.elim
end
section
variable {P : Program} {w : World} {K : PySem.W.Frag} {mg : Str → Option Value} {base : Heap} {T : List (Addr × Str)}
/-- isinstance of the pinned exception in a def that got it -/
theorem call_isP {CX : CXT} {N : List Str} {qual : Str} {scope : Scope} {f : Addr} {cd : Value} {A : Around} {outer : List PySem.Env} {s : Shared} {H : Hp} {E : XK} {p : Addr × Obj} {D0 : Addr} (C : ExcC K D0) (hz : Zc (.ref D0) none p.2) (hf : ∃ vs, p.2.data = .fields vs) :
    CallR (cxH CX P w K mg base N qual scope f cd A outer s H E p) (.builtin "isinstance") (rIsE K D0 p.1) := by
  intro pins s σ H xs us Q I r h
  obtain ⟨c, cv, b, rfl, hcv, e, q⟩ := h
  cases r with
  | cons rx rr =>
    cases rr with
    | cons rt rr =>
      cases rr
      cases rx
      have ec := hcv _ rt
      subst ec
      obtain ⟨hget, _⟩ := I.pin p (List.mem_append.mpr (.inl List.mem_cons_self))
      obtain ⟨vs, hv⟩ := hf
      have J : PySem.W.InstAt s.heap p.1 p.2 D0 none := by
        obtain ⟨a, oc, od, oda, osl⟩ := p
        obtain ⟨h1, h2⟩ := hz
        dsimp only at h1 h2 hv
        subst h1 h2 hv
        exact ⟨hget, rfl, rfl, trivial⟩
      exact PySem.W.kia_one (PySem.W.handS_kitx_exc C.hg C.hk C.hs C.hd C.ha C.hn C.ht C.hm) I.kIn J e (fun z => nomatch z) fun tk => ⟨.bl b, H, I.kept (t' := tk) fun _ _ z => z, rfl, q⟩
/-- a def that is called with the handled exception -/
theorem fn_mkP {x qual : Str} {st : Stmt} {f : Addr} {fd : FuncData} {N ps : List Str} {k : Nat} {p : Addr × Obj} {Fn : List D → Sto → Res D} (G : Fun K x qual st f fd) (Sc : FnScope N ps (defScope st)) (r : RS)
    (hbody : ∀ (cdv : Value) (A : Around) (outer : List PySem.Env) (s : Shared) (H : Hp) (E : XK) (F : Fr), F.T = T → Hot1 A p → RoomH k (A.deeper (envOfC qual (defScope st) s.heap.objs.size f cdv)) →
      VSs (cxH (L2N.CX P w) P w K mg base N qual (defScope st) f cdv A outer s H E p) F W0 (defBody st) r)
    (heq : ∀ ds S, ds.length = ps.length → Fn ds S ≠ .stuck → resOf (r (env0 N.length ds) S) = Fn ds S) (hne : ∀ ds S x S', Fn ds S ≠ .exc x S') : FnP p P w K mg base (L2N.CX P w) (k + 1) f fd ps (spF ⟨K, mg, T⟩ ps.length Fn) := by
  obtain ⟨oc, od, kV, doc, pm, an, cdv, ct, osl, rfl, lk, hcd⟩ := G.ex
  refine fn_ofP lk hcd Sc (fun vs H Q E h => h.1) fun A outer s H vs Q E hot hr hsp => ?_
  obtain ⟨hl, St, β, ds, h1, h2, h3, h4⟩ := hsp
  refine ⟨_, hbody cdv A outer s H E ⟨T, H, β⟩ rfl hot hr, env0 N.length ds, St, β, rel_start h1 h2 h3, ?_⟩
  have e := heq ds St (by rw [← h3.length]; exact hl) fun z => by rw [z] at h4; exact h4
  cases e2 : r (env0 N.length ds) St with
  | nx ρ' S' =>
    rw [← e, e2] at h4
    exact fun σ' H' β' a _ => h4 .non H' β' a.sto a.tab a.ev .non
  | rt d S' =>
    rw [← e, e2] at h4
    exact fun v H' β' a b c d => h4 v H' β' a b c d
  | exc x S' =>
    rw [e2] at e
    exact absurd e.symm (hne ds St x S')
  | bk ρ' S' => rw [← e, e2] at h4; exact h4.elim
  | ct ρ' S' => rw [← e, e2] at h4; exact h4.elim
  | stuck => rw [← e, e2] at h4; exact h4.elim
end
end VS

set_option maxHeartbeats 4000000
namespace VS
open PySem PySem.Spec PyProof.Rows L2 HotX L2H LamX

/-- what _law_kin makes of the exception at a -/
def kinF (a : Addr) (txt : Str) : List D → Sto → Res D := fun ds S => match ds with
  | [.adr a'] => if a' = a then .ok (.str txt) S else .stuck
  | _ => .stuck
structure KinW (P : Program) (w : World) (K : PySem.W.Frag) (mg : Str → Option Value) (base : Heap) (T : List (Addr × Str)) (kt : Str → Option Str) (k : Nat) (IT TM ME : Addr) : Prop where
  gIT : mg "InvalidText" = some (.ref IT)
  gTM : mg "TooMany" = some (.ref TM)
  gME : mg "MoodError" = some (.ref ME)
  kin : ∀ (c txt : Str) (D0 : Addr), kt c = some txt → mg c = some (.ref D0) → ∀ p : Addr × Obj, Zc (.ref D0) none p.2 → (∃ vs, p.2.data = .fields vs) →
    ∃ f fd, FnP p P w K mg base (L2N.CX P w) k f fd ["e"] (spF ⟨K, mg, T⟩ 1 (kinF p.1 txt)) ∧ mg "_law_kin" = some (.ref f) ∧ PySem.W.keepIn K (.ref f) = true ∧ Binds K fd ["e"] []
  ex : ∀ (c txt : Str) (D0 : Addr), kt c = some txt → mg c = some (.ref D0) → PySem.W.exmOne K (.ref D0) (.ref IT) = some false ∧ PySem.W.exmOne K (.ref D0) (.ref TM) = some false ∧ PySem.W.exmOne K (.ref D0) (.ref ME) = some true
theorem KinW.mono {P : Program} {w : World} {K : PySem.W.Frag} {mg : Str → Option Value} {base : Heap} {T : List (Addr × Str)} {kt : Str → Option Str} {k j : Nat} {IT TM ME : Addr} (h : KinW P w K mg base T kt k IT TM ME) (hk : k ≤ j) : KinW P w K mg base T kt j IT TM ME :=
  ⟨h.gIT, h.gTM, h.gME, fun c txt D0 a b p q r => let ⟨f, fd, F, x⟩ := h.kin c txt D0 a b p q r; ⟨f, fd, F.mono hk, x⟩, h.ex⟩
/-- what _law_try asks of the lambda's reading -/
def TTry (Z : Wd) (kt : Str → Option Str) : (XK → Hp → VK → Prop) → Hp → VK → Prop := fun tl H Q =>
  (∀ E H Q Q', tl E H Q → (∀ v H', Q v H' → Q' v H') → tl E H Q') ∧ ∃ Ech : XK, tl Ech H (fun v H' => ∀ p, H' p = none → Q (.ref p) (upd H' p (.tup [.str "told", v]))) ∧
    ∀ cls dd H', Ech cls dd H' → ∃ x S β txt, StR Z β S H' ∧ LamX.Tabs Z.T H' ∧ ExR Z β H' cls dd x ∧ kt x.cls = some txt ∧ x.fld = none ∧ ∀ H'' β', StR Z β' S H'' → LamX.Tabs Z.T H'' → Ev β H' β' H'' → Q (.str txt) H''
theorem pss_len {X : Cx} {sts : List Stmt} {t : TS} (h : PSs X sts t) : PSs X sts (fun D σ H => σ.length = X.N.length → t D σ H) := ⟨fun pins s σ H D I q => h.run pins s σ H D I (q I.len)⟩
theorem pe_fact {X : Cx} {e : Expr} {φ : Prop} {t : TE} (h : φ → PE X e t) : PE X e (fun σ H Q => φ ∧ t σ H Q) := ⟨fun pins s σ H Q I q => (h q.1).run pins s σ H Q I q.2⟩
theorem pe_ex {X : Cx} {e : Expr} {α : Type} {t : α → TE} (h : ∀ a, PE X e (t a)) : PE X e (fun σ H Q => ∃ a, t a σ H Q) := ⟨fun pins s σ H Q I ⟨a, q⟩ => (h a).run pins s σ H Q I q⟩
section
variable {X : Cx} {T : List (Addr × Str)} {kt : Str → Option Str} {IT TM ME g : Addr} {sg : Scope} {cdg : Value} {q x : Str} {k j : Nat}
theorem try_gives {k1 k2 k3 : Nat} {p1 p2 p3 p4 p5 p6 q1 q2 q3 q4 q5 q6 r1 r2 r3 r4 r5 r6 t1 t2 t3 t4 t5 : Pos} {b1 b2 : Stmt} {s1 s2 : List Stmt} (KW : KinW X.prog X.w X.K X.mg X.base T kt k IT TM ME) (hr : Room (k + 2) X.A) (hkd : sg.kind = .function)
    (hsf : sg.names.lookup ("found" : Str) = some .local) (hse : sg.names.lookup ("e" : Str) = some .local) (hsc : sg.names.lookup ("call_so" : Str) = some .local)
    (g1 : sg.names.lookup ("InvalidText" : Str) = some .globalImplicit) (g2 : sg.names.lookup ("TooMany" : Str) = some .globalImplicit) (g3 : sg.names.lookup ("MoodError" : Str) = some .globalImplicit) (g4 : sg.names.lookup ("_law_kin" : Str) = some .globalImplicit) :
    GivesToN X ["call_so", "found", "e"] x sg g cdg [.Assign [.Name "found" p1] (.Constant .none k1 p2) p3,
      .Try [.Assign [.Name "found" q1] (.Tuple [.Constant (.str "told") k2 q2, .Call (.Name "call_so" q3) [] [] q4] k3 q5) q6]
        [.ExceptHandler (some (.Name "InvalidText" r1)) (some "e") (b1 :: s1) r2, .ExceptHandler (some (.Name "TooMany" r3)) (some "e") (b2 :: s2) r4,
         .ExceptHandler (some (.Name "MoodError" r5)) (some "e") [.Assign [.Name "found" t1] (.Call (.Name "_law_kin" t2) [.Name "e" t3] [] t4) t5] r6] [] [] p4,
      .Return (some (.Name "found" p5)) p6] "call_so" q (TTry ⟨X.K, X.mg, T⟩ kt) := by
  intro f c' s H Q tl act hc h
  obtain ⟨mono, Ech, h1, h2⟩ := h
  generalize hX : (cxOf C8.CX0 X.prog X.w X.K X.mg X.base ["call_so", "found", "e"] x sg g cdg X.A X.stack s H C8.E0).nox = Y at *
  have eN : Y.N = (["call_so", "found", "e"] : List Str) := by subst hX; rfl
  have eK : Y.K = X.K := by subst hX; rfl
  have eM : Y.mg = X.mg := by subst hX; rfl
  have eP : Y.prog = X.prog := by subst hX; rfl
  have eW : Y.w = X.w := by subst hX; rfl
  have eB : Y.base = X.base := by subst hX; rfl
  have nd : Y.N.Nodup := by rw [eN]; decide
  have sf : Y.env.scope.names.lookup ("found" : Str) = some .local := by subst hX; exact hsf
  have se : Y.env.scope.names.lookup ("e" : Str) = some .local := by subst hX; exact hse
  have y1 : Gl Y "InvalidText" := by subst hX; exact g1
  have y2 : Gl Y "TooMany" := by subst hX; exact g2
  have y3 : Gl Y "MoodError" := by subst hX; exact g3
  have y4 : Gl Y "_law_kin" := by subst hX; exact g4
  have hr1 : RoomH k Y.A := by
    subst hX
    exact (roomH_of (hr.deeper _)).mono (Nat.le_succ _)
  -- the suite: found = _law_kin(e)
  have kin : ∀ (a : Addr) (oe : Obj) (cls : Value) (d : Option Addr) (pn : List (Addr × Obj)), L2N.Zn cls d oe → (∃ vs, oe.data = .fields vs) →
      PE (Y.suite a ((a, oe) :: pn)) (.Call (.Name "_law_kin" t2) [.Name "e" t3] [] t4) (fun σ H Q => ∃ (z : Str × Str × Addr), (kt z.1 = some z.2.1 ∧ X.mg z.1 = some (.ref z.2.2) ∧ cls = .ref z.2.2 ∧ d = none) ∧
        tCallS (spF ⟨X.K, X.mg, T⟩ 1 (kinF a z.2.1)) (fun _ _ _ _ => False) (tCons (tVar 2) tNil) σ H Q) := by
    intro a oe cls d pn hz hf
    refine pe_ex fun z => pe_fact fun ⟨z1, z2, z3, z4⟩ => ?_
    subst z3 z4
    obtain ⟨fk, fdk, F, m1, m2, m3⟩ := KW.kin z.1 z.2.1 z.2.2 z1 z2 (a, oe) hz.zc hf
    obtain ⟨vs, hv⟩ := hf
    have F' : FnP (a, oe) Y.prog Y.w Y.K Y.mg Y.base (L2N.CX Y.prog Y.w) k fk fdk ["e"] (spF ⟨X.K, X.mg, T⟩ 1 (kinF a z.2.1)) := by rw [eP, eW, eK, eM, eB]; exact F
    refine pe_callP (X := Y.suite a ((a, oe) :: pn)) (p := (a, oe)) F' ⟨hr1.dp, hr1.un⟩ ⟨rfl, vs, hv, hz.2.2 vs hv⟩ List.mem_cons_self y4 (by show Y.mg _ = _; rw [eM]; exact m1) (by show PySem.W.keepIn Y.K _ = _; rw [eK]; exact m2) (by show Binds Y.K _ _ _; rw [eK]; exact m3) (fun σ => ?_) (pa_cons (pe_var (i := 2) (by show Y.N[2]? = _; rw [eN]; rfl) (Or.inl se)) pa_nil)
    intro pins H1 s1 e s2 I hx
    obtain ⟨_, _, _, _, _, _, _, _, _, _, _, _, z⟩ := hx
    exact z.elim
  refine ⟨_, pss_cons (ps_set (i := 1) nd (by rw [eN]; rfl) (.inl sf) pe_non rfl (.inr sf)) (pss_cons (ps_try_manyAs (n := "e") (i := 2) (Wout := fun _ _ _ _ => False)
    (tb := fun W D σ H => ∃ E2 : XK, (∀ cls d σ' H', E2 cls d H' → W cls d σ' H') ∧ σ.length = 3 ∧ σ[0]? = some (some (.ref f)) ∧ H c' = some (CodeO c' q) ∧ tl E2 H (fun v H' => ∀ p, H' p = none → D.nx (σ.set 1 (some (.ref p))) (upd H' p (.tup [.str "told", v]))))
    (l := [(.ref IT, fun _ _ _ _ _ _ => False), (.ref TM, fun _ _ _ _ _ _ => False), (.ref ME, fun a cls d D σ H => σ.length = Y.N.length → tAsg (fun σ H Q => ∃ (z : Str × Str × Addr), (kt z.1 = some z.2.1 ∧ X.mg z.1 = some (.ref z.2.2) ∧ cls = .ref z.2.2 ∧ d = none) ∧
        tCallS (spF ⟨X.K, X.mg, T⟩ 1 (kinF a z.2.1)) (fun _ _ _ _ => False) (tCons (tVar 2) tNil) σ H Q) (gName 1) D σ H)])
    (by subst hX; rfl) (by subst hX; rfl) nd (by rw [eN]; rfl) se tk0 (fun W pn xe tk _ => ?_) ?_) (pss_one (ps_ret (pe_var (i := 1) (by rw [eN]; rfl) (Or.inl sf))))), ?_⟩
  · refine ⟨fun pins s' σ H' D I h' => ?_⟩
    obtain ⟨E2, hW, hl, h3, h4, h5⟩ := h'
    have hp : PE (Y.tr pn xe) (.Call (.Name "call_so" q3) [] [] q4) (fun σZ HZ Q => σZ[0]? = some (some (.ref f)) ∧ HZ c' = some (CodeO c' q) ∧ tl E2 HZ Q) := by
      subst hX
      exact act W pn xe E2 q3 q4 tk hW
    have ha : PA (Y.tr pn xe) [.Constant (.str "told") k2 q2, .Call (.Name "call_so" q3) [] [] q4] (tCons (tC (.str "told")) (tCons (fun σZ HZ Q => σZ[0]? = some (some (.ref f)) ∧ HZ c' = some (CodeO c' q) ∧ tl E2 HZ Q) tNil)) := pa_cons pe_str (pa_cons hp pa_nil)
    have hs1 : PS (Y.tr pn xe) (.Assign [.Name "found" q1] (.Tuple [.Constant (.str "told") k2 q2, .Call (.Name "call_so" q3) [] [] q4] k3 q5) q6) (tAsg (tTup (tCons (tC (.str "told")) (tCons (fun σZ HZ Q => σZ[0]? = some (some (.ref f)) ∧ HZ c' = some (CodeO c' q) ∧ tl E2 HZ Q) tNil))) (gName 1)) :=
      ps_set (X := Y.tr pn xe) (i := 1) nd (by show Y.N[1]? = _; rw [eN]; rfl) (.inl sf) (pe_tup ha) rfl (.inr sf)
    have hq := pss_one hs1
    exact hq.run pins s' σ H' D I ⟨h3, h4, mono _ _ _ _ h5 fun v H1 hv => ⟨by show 2 ≤ sizeLine; decide, fun p hp => hv p hp⟩⟩
  · refine .cons ⟨y1, by decide, .inl (by rw [eM]; exact KW.gIT)⟩ (fun a oe cls d pn hz hf => pss_never) (.cons ⟨y2, by decide, .inl (by rw [eM]; exact KW.gTM)⟩ (fun a oe cls d pn hz hf => pss_never) (.cons ⟨y3, by decide, .inl (by rw [eM]; exact KW.gME)⟩ (fun a oe cls d pn hz hf => ?_) .nil))
    exact pss_len (X := Y.suite a ((a, oe) :: pn)) (pss_one (ps_set (X := Y.suite a ((a, oe) :: pn)) (i := 1) nd (by show Y.N[1]? = _; rw [eN]; rfl) (.inl sf) (kin a oe cls d pn hz hf) rfl (.inr sf)))
  · -- the reading
    show ∃ E2 : XK, _
    refine ⟨fun cls dd H' => Ech cls dd H', fun cls d σ' H' hE => ?_, rfl, rfl, hc, mono _ _ _ _ h1 fun v H1 hv p hp => ?_⟩
    · obtain ⟨xx, S, β, txt, e1, e2, e3, e4, e5, e6⟩ := h2 cls d H' hE
      obtain ⟨C, c1, c2, c3⟩ := e3
      rw [e5] at c3
      obtain ⟨x1, x2, x3⟩ := KW.ex xx.cls txt C e4 c1
      subst c2
      refine ⟨false, by rw [eK]; exact x1, fun z => (by cases z), fun _ => ⟨false, by rw [eK]; exact x2, fun z => (by cases z), fun _ => ⟨true, by rw [eK]; exact x3, fun _ a ha hl => ?_, fun z => (by cases z)⟩⟩⟩
      have hl3 : σ'.length = 3 := by
        have : (σ'.set 2 (some (V.ref a))).length = Y.N.length := hl
        rw [List.length_set, eN] at this
        exact this
      refine ⟨(xx.cls, txt, C), ⟨e4, c1, rfl, c3⟩, .ref a, by rw [List.getElem?_set_self (by omega)], ?_⟩
      refine ⟨rfl, S, β, [.adr a], e1, e2, .cons (.adr a) .nil, ?_⟩
      have ek : kinF a txt [.adr a] S = .ok (.str txt) S := by
        unfold kinF
        simp
      rw [ek]
      intro v H2 β2 w1 w2 w3 w4
      cases w4
      refine ⟨.str txt, ?_, e6 H2 β2 w1 w2 w3⟩
      rw [List.getElem?_set_ne (by decide), List.getElem?_set_self (by rw [List.length_set]; omega)]
    · exact ⟨.ref p, rfl, hv p hp⟩
end
end VS

set_option maxHeartbeats 4000000
namespace VS
open PySem PySem.Spec PyProof.Rows L2 HotX L2H LamX
@[simp] def rTry (kt : Str → Option Str) (r : Env → Sto → Res D) : Env → Sto → Res D := fun ρ S => match r ρ S with
  | .ok d S' => .ok (.tup [.str "told", d]) S'
  | .exc x S' => match kt x.cls, x.fld with
    | some txt, none => .ok (.str txt) S'
    | _, _ => .stuck
  | .stuck => .stuck
section
variable {X : Cx} {F : Fr} {W : WX}
theorem ev_extN {β : List Addr} {H H1 : Hp} (e : ExtN H H1) (d : ∀ a, H1 a = none → H a = none) : Ev β H β H1 where
  pre := fun _ _ h => h
  fresh := fun _ m n => absurd m n
  keep := fun a o h c => e a o h fun ps z => by
    subst z
    rcases c with c | ⟨_, c⟩
    · exact Bool.noConfusion (show false = true from c)
    · exact Bool.noConfusion (show true = false from c)
  dom := d
theorem StR.extN {Z : Wd} {β : List Addr} {S : Sto} {H H1 : Hp} (h : StR Z β S H) (e : ExtN H H1) (d : ∀ a, H1 a = none → H a = none) : StR Z β S H1 := by
  have ev : Ev β H β H1 := ev_extN e d
  refine ⟨h.len, h.nd, fun n so q => ?_⟩
  obtain ⟨a, h1, h2⟩ := h.at_ n so q
  refine ⟨a, h1, ?_⟩
  cases so with
  | cell l => obtain ⟨vs, g1, g2⟩ := h2; exact ⟨vs, e _ _ g1 (fun ps z => by cases z), g2.mono ev⟩
  | ins C fs => obtain ⟨Ca, dx, fvs, g1, g2, g3⟩ := h2; exact ⟨Ca, dx, fvs, g1, e _ _ g2 (fun ps z => by cases z), g3.mono ev⟩
theorem Rel.extN {ρ : Env} {S : Sto} {β : List Addr} {σ : L2.St} {H H1 : Hp} (h : Rel (zX X F) F ρ S β σ H) (e : ExtN H H1) (d : ∀ a, H1 a = none → H a = none) (t : LamX.Tabs F.T H1) : Rel (zX X F) F ρ S β σ H1 := h.step (h.sto.extN e d) t (ev_extN e d)
theorem ve_try {kt : Str → Option Str} {c P g : Addr} {k : Nat} {stT : Stmt} {fdT : FuncData} {a : Str} {params : Arguments} {body : Expr} {scope : Scope} {r : Env → Sto → Res D} {p lpos pos : Pos}
    (G : Fun X.K "_law_try" "_law_try" stT g fdT) (hm : X.mg "_law_try" = some (.ref g)) (hb : Binds X.K fdT [a] []) (hNa : (["call_so", "found", "e"] : List Str)[0]? = some a) (Sg : FnScope ["call_so", "found", "e"] [a] (defScope stT))
    (hG : ∀ (cdv : Value), PySem.W.codeIn X.K cdv "_law_try" = true → GivesToN X ["call_so", "found", "e"] "_law_try" (defScope stT) g cdv (defBody stT) a (X.env.qual ++ "<lambda>") (TTry (zX X F) kt))
    (TB : TabB X.base X.mg c P) (hcode : X.env.code = .ref c) (hmT : (P, X.env.qual ++ "<lambda>") ∈ F.T) (hu : ∀ p ∈ F.T, p.1 = P → p.2 = X.env.qual ++ "<lambda>") (hr : Room (k + 2) X.A) (L : LamS X.env.scope scope)
    (hbody : ∀ (A : Around) (outer : List PySem.Env) (s : Shared) (H : Hp) (E : XK) (f c' : Addr), Room k (A.deeper (lamEnv X scope s.heap.objs.size f c')) → L2N.Takes (lamCxN X A outer s H E scope f c') (fun cls d _ H' => E cls d H') →
      VF (lamCxN X A outer s H E scope f c') F (fun cls d _ H' => E cls d H') body r)
    (hg : Gl X "_law_try" := by rfl) (hva : Vis (defScope stT) a := by first | exact Or.inl rfl | exact Or.inr (Or.inl rfl) | exact Or.inr (Or.inr rfl)) (hdef : defaultsOf params X.env = ([], []) := by rfl)
    (hbind : ∀ (q : Str) (cl : List (Str × Addr)) (pm cv ctv : Value), bindArgs (PySem.W.kla_fn "<lambda>" q params body scope cl pm cv ctv) ⟨[], []⟩ = pure [] := by intro _ _ _ _ _; rfl) (hd : (a == ("__debug__" : Str)) = false := by decide) (hcd : (a == ("__classdict__" : Str)) = false := by decide) :
    VF X F W (.Call (.Name "_law_try" p) [.Lambda params body scope lpos] [] pos) (rTry kt r) := by
  obtain ⟨oc, od, kV, doc, pm, an, cdv, ct, osl, rfl, lk, hcd2⟩ := G.ex
  refine pe_imp (pe_lamcallN (T := F.T) (TT := TTry (zX X F) kt) (t := fun E => tG (zX X F) F (fun cls d _ H' => E cls d H') (RF (zX X F)) r) hg hm G.kp lk hcd2 hb Sg hNa hva (hG cdv hcd2) TB hcode hmT hu hr L hdef hbind
    (fun A outer s H E f c' hr2 => hbody A outer s H E f c' hr2 (L2N.takes_of rfl rfl rfl rfl)) (by decide) hd hcd) fun σ H Q q => ?_
  obtain ⟨ρ, S, β, hr1, hp⟩ := q
  refine ⟨hr1.tab, fun H1 eN dN tN => ⟨fun E H2 Q Q' h m => tG_mono h m, ?_⟩⟩
  have rel1 : Rel (zX X F) F ρ S β σ H1 := hr1.extN eN dN tN
  have ev1 : Ev β H β H1 := ev_extN eN dN
  have hp := Post.later anti_F ev1 hp
  unfold rTry at hp
  refine ⟨fun cls dd H' => ∃ x S' β' txt, r ρ S = .exc x S' ∧ StR (zX X F) β' S' H' ∧ LamX.Tabs F.T H' ∧ ExR (zX X F) β' H' cls dd x ∧ kt x.cls = some txt ∧ x.fld = none ∧ Ev F.β0 F.H0 β' H' ∧ Ev β H1 β' H', ⟨ρ, S, β, rel1, ?_⟩, fun cls dd H' hE => ?_⟩
  · cases e : r ρ S with
    | ok d S' =>
      rw [e] at hp
      intro v H2 β2 r2 e2 c2 p hp2
      refine hp _ _ β2 (r2.same (.new hp2)) (e2.trans (.of (.new hp2))) ?_
      exact .tup (.of upd_same) (.cons (.str _) (.cons (c2.mono (.of (.new hp2))) .nil))
    | exc x S' =>
      rw [e] at hp
      intro cls dd H2 β2 r2 e2 c2
      have hp : Post (zX X F) F W ρ σ β H1 (RF (zX X F)) (match kt x.cls, x.fld with | some txt, none => .ok (.str txt) S' | _, _ => .stuck) Q := hp
      cases ek : kt x.cls with
      | none => rw [ek] at hp; exact hp.elim
      | some txt =>
        cases ef : x.fld with
        | some z => rw [ek, ef] at hp; exact hp.elim
        | none => exact ⟨x, S', β2, txt, rfl, r2.sto, r2.tab, c2, ek, ef, r2.ev, e2⟩
    | stuck => rw [e] at hp; exact hp.elim
  · obtain ⟨x, S', β', txt, h1, h2, h3, h4, h5, h6, h7, h8⟩ := hE
    rw [h1] at hp
    have hp : Post (zX X F) F W ρ σ β H1 (RF (zX X F)) (match kt x.cls, x.fld with | some txt, none => .ok (.str txt) S' | _, _ => .stuck) Q := hp
    rw [h5, h6] at hp
    refine ⟨x, S', β', txt, h2, h3, h4, h5, h6, fun H2 β2 w1 w2 w3 => ?_⟩
    exact hp _ H2 β2 (rel1.step w1 w2 (h8.trans w3)) (h8.trans w3) (.str _)
end
end VS

set_option maxHeartbeats 4000000
namespace VS
open PySem PySem.Spec PyProof.Rows L2 LamX
/-- law_call with tables: cs, the code objects and their tables -/
theorem law_callTL {P : Program} {w : World} {K : PySem.W.Frag} {mg mb : Str → Option Value} {CX : CXT} {k : Nat} {fa a : Addr} {cs : List (Addr × Addr)} {fd : FuncData} {x : Str} {sp : Sp} {s₁ : Shared} {vs : List Value} {ns : List Int}
    (KX : K.In s₁.heap) (hns : s₁.heap.Ns mainGlobals mg) (hb : s₁.heap.Ns builtinsNs mb) (hbb : ∀ x : Str, x ≠ "__name__" → mb x = bootBuiltins x) (hlim : s₁.heap.NoLimit) (hg : s₁.gens = #[])
    (hT : ∀ p ∈ cs, s₁.heap.get? p.2 = some { cls := .none, data := .fields #[] }) (nT : ∀ p ∈ cs, K.lookup p.2 = none) (C : ∀ p ∈ cs, PySem.W.CodeHd s₁.heap p.1 p.2)
    (hbm : ∃ (bm : Addr) (ob : Obj), mg "__builtins__" = some (.ref bm) ∧ bm ≠ builtinsNs ∧ s₁.heap.get? bm = some ob ∧ ob.cls = .type "module" ∧ ob.dict = some builtinsNs ∧ ob.data = .plain)
    (ha : s₁.heap.get? a = some { cls := .type "list", data := .seq vs.toArray }) (hi : IntsAre vs ns) (hl : ns.length ≤ sizeLine) (hr : Room k callerA)
    (F : ∀ base : Heap, K.In base → base.Ns mainGlobals mg → (∀ p ∈ cs, TabB base mg p.1 p.2) → FnOk P w K mg base CX k fa fd [x] sp) (hbind : ∀ (s : Shared) (u : Value), BindsTo s fd ⟨[u], []⟩ [(x, u)])
    (hsp : ∀ H : Hp, (∀ p ∈ cs, H p.2 = some (.tbl #[])) → ImL K H a (ns.map V.int) → sp [.ref a] H (fun v _ => v = .bl true) fun _ _ _ => False)
    (hCX : ∀ H e s', CX [] H s₁ (fun _ _ _ => False) e s' → False) :
    codeAny (model P w) callerA (.call (.ref fa) ⟨[.ref a], []⟩) (fun r s' => r = .ok (.ret (.bool true)) ∧ OldK s₁.heap s'.heap ∧ s'.os = s₁.os ∧ AllBare s'.gens) s₁ := by
  have rv := vals_ints hi
  have lenV := hi.length
  have isT : ∀ b : Addr, b ∈ cs.map (·.2) → s₁.heap.get? b = some { cls := .none, data := .fields #[] } := fun b hb => by
    obtain ⟨p, hp, e⟩ := List.mem_map.mp hb
    rw [← e]
    exact hT p hp
  have aT : a ∉ cs.map (·.2) := fun z => by
    have q := isT a z
    rw [ha] at q
    have z' : Data.seq vs.toArray _ = Data.fields #[] := congrArg Obj.data (Option.some.inj q)
    cases z'
  have memT : ∀ p ∈ cs, p.2 ∈ cs.map (·.2) := fun p hp => List.mem_map.mpr ⟨p, hp, rfl⟩
  -- from an abstract heap in which nothing but the script and the tables may be tracked
  have core : ∀ H : Hp, (∀ p ∈ cs, H p.2 = some (.tbl #[])) → (∀ b, H b = none ∨ b ∈ cs.map (·.2) ∨ ∃ o xs, H b = some (.frz o (.lst xs))) → ImL K H a (ns.map V.int) → HOk P w H s₁.heap → (∀ b, H b ≠ none → b = a ∨ b ∈ cs.map (·.2)) → (H a ≠ none → K.lookup a = none) →
      codeAny (model P w) callerA (.call (.ref fa) ⟨[.ref a], []⟩) (fun r s' => r = .ok (.ret (.bool true)) ∧ OldK s₁.heap s'.heap ∧ s'.os = s₁.os ∧ AllBare s'.gens) s₁ := by
    intro H hH hO hS hok hA hK
    have base_of : ∀ {b : Addr} {o : Obj}, s₁.heap.get? b = some o → H b = none → (hidT s₁.heap H).get? b = some o := fun e n => hidT_get e n
    have noD : ∀ {b : Addr} {o : Obj}, s₁.heap.get? b = some o → (∀ vs n, o.data ≠ .seq vs n) → o.data ≠ .fields #[] → H b = none := fun {b o} e h1 h2 => by
      cases q : H b with
      | none => rfl
      | some u =>
        rcases hA b (by rw [q]; simp) with e' | e'
        · rw [e', ha] at e
          cases e
          exact (h1 _ _ rfl).elim
        · rw [isT b e'] at e
          cases e
          exact (h2 rfl).elim
    have noA : ∀ {b : Addr} {o : Obj} {es : Array DictEntry} {ep : Nat}, s₁.heap.get? b = some o → o.data = .dict es ep → H b = none := fun {b o es ep} e d => by
      refine noD e (fun vs n z => ?_) fun z => ?_
      · rw [d] at z
        cases z
      · rw [d] at z
        cases z
    have nsK : ∀ {b : Addr} {m : Str → Option Value}, s₁.heap.Ns b m → (hidT s₁.heap H).Ns b m := fun {b m} ⟨o, es, ep, e, d, r⟩ => ⟨o, es, ep, base_of e (noA e d), d, r⟩
    have hKb : K.In (hidT s₁.heap H) := fun b o e => base_of (KX b o e) (by
      cases q : H b with
      | none => rfl
      | some u =>
        rcases hA b (by rw [q]; simp) with e' | e'
        · rw [e'] at e q
          rw [hK (by rw [q]; simp)] at e
          cases e
        · obtain ⟨p, hp, ep⟩ := List.mem_map.mp e'
          rw [← ep, nT p hp] at e
          cases e)
    have hM : L2.Mod K mg (hidT s₁.heap H) := ⟨hKb, nsK hns, ⟨mb, nsK hb, hbb⟩, let ⟨mc, h1, h2⟩ := hlim; ⟨mc, nsK h1, h2⟩⟩
    have TB : ∀ p ∈ cs, TabB (hidT s₁.heap H) mg p.1 p.2 := fun p hp => by
      have hTp := hT p hp
      refine ⟨?_, ?_, fun z => ?_⟩
      · obtain ⟨o, us, file, tf, flags, tg, inF, text, tt, e1, r1, r2, r3, r4, r5, r6, r7, r8, hne⟩ := C p hp
        refine ⟨o, us, file, tf, flags, tg, inF, text, tt, base_of e1 (noD e1 (fun vs n z => ?_) fun z => ?_), r1, r2, r3, r4, r5, r6, r7, r8, hne⟩
        · rw [r2] at z
          cases z
        · rw [r2] at z
          cases z
          simp at r3
      · obtain ⟨bm, ob, b1, b2, b3, b4, b5, b6⟩ := hbm
        have nG : bm ≠ mainGlobals := fun q => by
          obtain ⟨o, es, ep, e, hd, _⟩ := hns
          rw [q, e] at b3
          cases b3
          rw [hd] at b6
          cases b6
        have nP : bm ≠ p.2 := fun q => by
          rw [q, hTp] at b3
          cases b3
          cases b6
        refine ⟨bm, ob, b1, b2, nG, nP, base_of b3 (noD b3 (fun vs n z => ?_) fun z => ?_), b4, b5, b6⟩
        · rw [b6] at z
          cases z
        · rw [b6] at z
          cases z
      · obtain ⟨o, es, ep, e, hd, _⟩ := hns
        rw [z, hTp] at e
        cases e
        cases hd
    have e0 : Env0 P w K mg (hidT s₁.heap H) callerA [] s₁ H := ⟨rfl, hM, fun b o e => of_hidT e, Nat.le_of_eq (hidT_size _ _), trivial, fun b hb => absurd (show b ∈ ([] : List Addr) from hb) (by simp), hok, .of_eq hg⟩
    refine codeAny_mono ((F _ hKb (nsK hns) TB).run callerA [] s₁ H ⟨[.ref a], []⟩ [.ref a] [.ref a] _ _ hr e0 (hbind s₁ (.ref a)) (.cons rfl .nil) (hsp H hH hS)) fun r s' h => ?_
    cases r with
    | error e => exact (hCX H e s' h).elim
    | ok fl =>
      cases fl with
      | next => exact False.elim h
      | brk => exact False.elim h
      | cont => exact False.elim h
      | ret u =>
        obtain ⟨v, H', os, bare, un, hok', r', q⟩ := h
        have q' : v = .bl true := q
        subst q'
        obtain rfl : u = Value.bool true := r'
        have key : ∀ b o, b ∉ cs.map (·.2) → s₁.heap.get? b = some o → s'.heap.get? b = some o := fun b o nb e => by
          cases q : H b with
          | none => exact un.keep b o e q (by intro z; exact absurd (show b ∈ ([] : List Addr) from z) (by simp)) (by simp)
          | some u =>
            rcases hO b with z | z | ⟨ob, xs, z⟩
            · rw [q] at z; cases z
            · exact absurd z nb
            · have z2 := un.frzs b ob _ z
              obtain ⟨e1, _⟩ := hok b _ z
              obtain ⟨e2, _⟩ := hok' b _ z2
              rw [e] at e1; cases e1
              exact e2
        have grown : ∀ p ∈ cs, ∃ more : Array Value, s'.heap.get? p.2 = some { cls := .none, data := .fields more } := fun p hp => by
          obtain ⟨more, z⟩ := un.tbls p.2 #[] (hH p hp)
          exact ⟨_, hok' p.2 _ z⟩
        refine ⟨rfl, ⟨fun b o e => ?_, fun b o e => ?_⟩, os, bare⟩
        · by_cases hb : b ∈ cs.map (·.2)
          · obtain ⟨p, hp, ep⟩ := List.mem_map.mp hb
            obtain ⟨more, hm⟩ := grown p hp
            rw [← ep] at e ⊢
            rw [hT p hp] at e
            cases e
            exact .inr (.inl ⟨((C p hp).tab (hT p hp)).isCodeTable, rfl, #[], more, rfl, by rw [Array.empty_append]; exact hm⟩)
          · exact .inl (key b o hb e)
        · by_cases hb : b ∈ cs.map (·.2)
          · obtain ⟨p, hp, ep⟩ := List.mem_map.mp hb
            obtain ⟨more, hm⟩ := grown p hp
            rw [← ep]
            exact ⟨_, hm⟩
          · exact ⟨o, key b o hb e⟩
  cases hk : K.lookup a with
  | some o =>
    have e := KX a o hk
    rw [ha] at e
    cases e
    refine core (fun b => if b ∈ cs.map (·.2) then some (.tbl #[]) else none) (fun p hp => if_pos (memT p hp)) (fun b => ?_) (.inr ⟨vs.toArray, _, hk, by rw [List.size_toArray, lenV]; exact hl, by simpa using rv⟩) (fun b u z => ?_) (fun b z => ?_) fun z => absurd (show (if a ∈ cs.map (·.2) then some (HO.tbl #[]) else none) = none from if_neg aT) z
    · by_cases hb : b ∈ cs.map (·.2)
      · exact .inr (.inl hb)
      · exact .inl (if_neg hb)
    · by_cases hb : b ∈ cs.map (·.2)
      · have z' := (if_pos hb).symm.trans z
        cases z'
        exact isT b hb
      · have z' := (if_neg hb).symm.trans z
        cases z'
    · by_cases hb : b ∈ cs.map (·.2)
      · exact .inr hb
      · exact absurd (if_neg hb) z
  | none =>
    refine core (fun b => if b = a then some (.frz { cls := .type "list", data := .seq vs.toArray } (.lst (ns.map V.int))) else if b ∈ cs.map (·.2) then some (.tbl #[]) else none) (fun p hp => (if_neg (show ¬ p.2 = a from fun z => aT (by rw [← z]; exact memT p hp))).trans (if_pos (memT p hp))) (fun b => ?_)
      (.inl ⟨{ cls := .type "list", data := .seq vs.toArray }, if_pos rfl⟩) (fun b u z => ?_) (fun b z => ?_) fun _ => hk
    · by_cases hb : b = a
      · exact .inr (.inr ⟨_, _, if_pos hb⟩)
      · by_cases hb2 : b ∈ cs.map (·.2)
        · exact .inr (.inl hb2)
        · exact .inl ((if_neg hb).trans (if_neg hb2))
    · by_cases hb : b = a
      · have z' := (if_pos hb).symm.trans z
        cases z'
        rw [hb]
        exact ⟨ha, by rw [List.length_map]; exact hl, vs, _, rv, ha⟩
      · have z1 := (if_neg hb).symm.trans z
        by_cases hb2 : b ∈ cs.map (·.2)
        · have z' := (if_pos hb2).symm.trans z1
          cases z'
          exact isT b hb2
        · have z' := (if_neg hb2).symm.trans z1
          cases z'
    · by_cases hb : b = a
      · exact .inl hb
      · by_cases hb2 : b ∈ cs.map (·.2)
        · exact .inr hb2
        · exact absurd ((if_neg hb).trans (if_neg hb2)) z
/-- what is known of the law's promise at the head's heap h -/
def LawAtL (l : PySem.W.OpenLaw) (w : World) (K : PySem.W.Frag) (CX : CXT) (k n : Nat) (x : Str) (mg : Str → Option Value) (fa : Addr) (h : Heap) : Prop :=
  ∃ (fd : FuncData) (cs : List (Addr × Addr)) (sp : Sp), (∀ p ∈ cs, h.get? p.2 = some { cls := .none, data := .fields #[] }) ∧ (∀ p ∈ cs, K.lookup p.2 = none) ∧ (∀ p ∈ cs, PySem.W.CodeHd h p.1 p.2) ∧ (∀ (s : Shared) (u : Value), BindsTo s fd ⟨[u], []⟩ [(x, u)]) ∧
    (∀ (H : Hp) (a : Addr) (ns : List Int), ns.length ≤ n → (∀ z ∈ ns, Builtin.Int.intBits z ≤ 1048576) → (∀ p ∈ cs, H p.2 = some (.tbl #[])) → ImL K H a (ns.map V.int) → sp [.ref a] H (fun v _ => v = .bl true) fun _ _ _ => False) ∧
    ∀ base : Heap, K.In base → base.Ns mainGlobals mg → (∀ p ∈ cs, TabB base mg p.1 p.2) → FnOk l.prog w K mg base CX k fa fd [x] sp
theorem walk_ofTL {l : PySem.W.OpenLaw} {n k : Nat} {q : Program} {loose : List Str} {XP : (Str → Option Value) → Heap → Prop} {YP : World → Heap → Prop} {d : DefRec} {CX : World → CXT} {x : Str}
    (hn : l.most = some n) (hn2 : n ≤ sizeLine) (hdf : d.params.defaults = []) (hr : Room k callerA)
    (F : ∀ (w : World) (mg : Str → Option Value) (fa : Addr) (h : Heap), YP w h → h.Ns mainGlobals mg → mg d.name = some (.ref fa) → ∃ K : PySem.W.Frag, K.In h ∧ LawAtL l w K (CX w) k n x mg fa h)
    (hCX : ∀ (w : World) (H : Hp) (s : Shared) (e : Value) (s' : Shared), CX w [] H s (fun _ _ _ => False) e s' → False) :
    PySem.W.WalkO q loose XP YP l.row.toRowW d [] (fun f vs => PySem.call f vs) := by
  refine Att.attach_callB hn hdf fun w s₀ s₁ mg mb fa o pm cd doc a vs ns G Y ho hd hcd hmg hobj hints hlen hbits hg => ?_
  obtain ⟨K, KX, fd, cs, sp, hT, nT, C, hb, hsp, hF⟩ := F w mg fa _ Y G.T.g hmg
  exact law_callTL KX G.T.g G.T.b G.T.builtins G.T.nolimit hg hT nT C G.T.bmain hobj hints (Nat.le_trans hlen hn2) hr hF hb (fun H hH hS => hsp H a ns hlen hbits hH hS) fun H e s' => hCX w H s₁ e s'

end VS

set_option maxHeartbeats 4000000
namespace VS
open PySem PySem.Spec PyProof.Rows L2
def strsV : List Value → List Str → Bool
  | [], [] => true
  | .str y _ :: vs, s :: ss => decide (y = s) && strsV vs ss
  | _, _ => false
theorem strsV_ok : ∀ {vs : List Value} {ss : List Str}, strsV vs ss = true → Vals (ss.map V.str) vs
  | [], [], _ => .nil
  | [], _ :: _, h => by simp [strsV] at h
  | v :: vs, ss, h => by
    cases v <;> cases ss <;> simp [strsV] at h
    obtain ⟨rfl, h⟩ := h
    exact .cons ⟨_, rfl⟩ (strsV_ok h)
def tupSB (K : PySem.W.Frag) (x : Str) (ss : List Str) : Bool := match K.lookup (He.ga K x) with
  | some o => decide (o.cls = .type "tuple") && (match o.data with
    | .seq its _ => decide (its.size ≤ 1000) && strsV its.toList ss
    | _ => false)
  | none => false
theorem tupS_ok {K : PySem.W.Frag} {mg : Str → Option Value} {x : Str} {ss : List Str} (hm : mg x = some (.ref (He.ga K x))) (h : tupSB K x ss = true) : Gc K mg x (.tup (ss.map .str)) := by
  unfold tupSB at h
  split at h
  · rename_i o ho
    simp only [Bool.and_eq_true, decide_eq_true_eq] at h
    obtain ⟨hc, h⟩ := h
    split at h
    · rename_i its n hd
      simp only [Bool.and_eq_true, decide_eq_true_eq] at h
      refine ⟨.ref (He.ga K x), .ref (He.ga K x), hm, rfl, fun T β H => ?_⟩
      refine Rep.tup (.inr ⟨o, its, n, ho, hc, hd, Nat.le_trans h.1 (by decide), strsV_ok h.2⟩) reps_strs
    · cases h
  · cases h
end VS

set_option maxHeartbeats 4000000
namespace VS
open PySem PySem.Spec PyProof.Rows L2
section
variable {X : Cx} {CX : CXT} {k i : Nat} {x : Str} {p pos : Pos} {e : Expr} {es : List Expr} {t : TA}
theorem pe_callAS {Sf : Addr → Sp → Prop} {E : L2.St → XK} (A : ∀ f sp, Sf f sp → ∃ (fd : FuncData) (ps : List Str), FnOk X.prog X.w X.K X.mg X.base CX k f fd ps sp ∧ PySem.W.keepIn X.K (.ref f) = true ∧ Binds X.K fd ps []) (hr : Room k X.A) (hN : X.N[i]? = some x) (hv : Vis X.env.scope x) (hx : ∀ σ, PassesAt CX X σ (E σ)) (ha : PA X (e :: es) t)
    (hdb : (x == ("__debug__" : Str)) = false := by decide) (hcd : (x == ("__classdict__" : Str)) = false := by decide)
    (he : starEach (e :: es) X.env = (false, eval e X.env) :: starEach es X.env := by rfl) (hpl : (backTo pos (starEach es X.env)).any (·.1) = false := by rfl) :
    PE X (.Call (.Name x p) (e :: es) [] pos) (fun σ H Q => ∃ f sp, σ[i]? = some (some (.ref f)) ∧ Sf f sp ∧ t σ H fun vs H1 => sp vs H1 Q (E σ)) := by
  refine ⟨fun pins s σ H Q I h => ?_⟩
  obtain ⟨f, sp, hs, hS, ht⟩ := h
  obtain ⟨fd, ps, F, hk, hb⟩ := A f sp hS
  refine wpAny_Call_Name_kw (thn ((pe_var (pos := p) hN hv hdb hcd).run pins s σ H (fun v H1 => v = .ref f ∧ H1 = H) I ⟨.ref f, hs, rfl, rfl⟩) fun u s1 ⟨v, H1, I1, r1, q1⟩ => ?_)
  obtain ⟨rfl, rfl⟩ := q1
  cases r1
  refine PySem.W.callWith_K (h₀ := X.base) I.ok.mod.kin hk (thn (ha.run pos pins s1 σ _ _ I1 ht) fun us s2 ⟨vs, H2, I2, r, q⟩ => ⟨I2.kIn, ?_⟩) he hpl
  exact run_fnS F hr hb (hx σ) I2 r q
end
/-- a table of defs -/
def TabOk (P : Program) (w : World) (K : PySem.W.Frag) (mg : Str → Option Value) (base : Heap) (T : List (Addr × Str)) (k n : Nat) (fs : Str → Option (List D → Sto → Res D)) : Prop := ∀ y Fn, fs y = some Fn → HasFn P w K mg base T y k n Fn
section
variable {P : Program} {w : World} {K : PySem.W.Frag} {mg : Str → Option Value} {base : Heap} {T : List (Addr × Str)} {k n : Nat} {fs : Str → Option (List D → Sto → Res D)}
theorem tab_nil : TabOk P w K mg base T k n fun _ => none := fun _ _ h => by cases h
theorem tab_cons {x : Str} {Fn : List D → Sto → Res D} (h : HasFn P w K mg base T x k n Fn) (t : TabOk P w K mg base T k n fs) : TabOk P w K mg base T k n fun y => if y = x then some Fn else fs y := fun y Gn e => by
  dsimp only at e
  split at e
  · rename_i z
    cases e
    rw [z]
    exact h
  · exact t y Gn e
end
@[simp] def rCallV (i : Nat) (fs : Str → Option (List D → Sto → Res D)) (r : Env → Sto → Res (List D)) : Env → Sto → Res D := fun ρ S => match ρ[i]? with
  | some (.val (.fn y)) => (match fs y with
    | some Fn => (r ρ S).bind fun ds S1 => Fn ds S1
    | none => .stuck)
  | _ => .stuck
section
variable {X : Cx} {F : Fr} {W : WX} {e : Expr} {es : List Expr} {p pos : Pos} {x : Str} {k n i : Nat} {fs : Str → Option (List D → Sto → Res D)} {r : Env → Sto → Res (List D)}
theorem ve_callV (h : TabOk X.prog X.w X.K X.mg X.base F.T k n fs) (hr : Room k X.A) (tk : L2N.Takes X W) (hl : Lens r n) (ha : VA X F W (e :: es) r) (hN : X.N[i]? = some x) (hv : Vis X.env.scope x) (hdb : (x == ("__debug__" : Str)) = false := by decide) (hcd : (x == ("__classdict__" : Str)) = false := by decide)
    (he : starEach (e :: es) X.env = (false, eval e X.env) :: starEach es X.env := by rfl) (hpl : (backTo pos (starEach es X.env)).any (·.1) = false := by rfl) : VF X F W (.Call (.Name x p) (e :: es) [] pos) (rCallV i fs r) := by
  refine pe_imp (pe_callAS (Sf := fun f sp => ∃ y Fn, fs y = some Fn ∧ X.mg y = some (.ref f) ∧ sp = spF (zX X F) n Fn) (fun f sp hs => ?_) hr hN hv (fun σ => L2N.passAt tk σ) ha hdb hcd he hpl) fun σ H Q q => ?_
  · obtain ⟨y, Fn, e1, e2, rfl⟩ := hs
    obtain ⟨f', fd, ps, h1, h2, h3, h4⟩ := (h y Fn e1).ex
    rw [e2] at h2
    cases h2
    exact ⟨fd, ps, h1, h3, h4⟩
  · obtain ⟨ρ, S, β, hr', hp⟩ := q
    unfold rCallV at hp
    split at hp
    · rename_i y ey
      obtain ⟨v, e1, r1⟩ := hr'.slot i _ ey
      cases r1 with
      | fn hm =>
        split at hp
        · rename_i Fn eF
          exact ⟨_, _, e1, ⟨y, Fn, eF, hm, rfl⟩, call_read hl ⟨ρ, S, β, hr', hp⟩⟩
        · exact hp.elim
    · exact hp.elim
end
end VS
namespace VS
open PySem PySem.Spec PyProof.Rows L2
theorem qcallV {X : Cx} {F : Fr} {W : WX} {e : Expr} {es : List Expr} {p pos : Pos} {x : Str} {k n : Nat} (i : Nat) {fs : Str → Option (List D → Sto → Res D)} {r : Env → Sto → Res (List D)} (h : TabOk X.prog X.w X.K X.mg X.base F.T k n fs) (hr : Room k X.A) (tk : L2N.Takes X W) (hl : Lens r n) (ha : VA X F W (e :: es) r) (hN : X.N[i]? = some x := by rfl) (hv : Vis X.env.scope x := by first | exact Or.inl rfl | exact Or.inr (Or.inl rfl) | exact Or.inr (Or.inr rfl)) (hdb : (x == ("__debug__" : Str)) = false := by decide) (hcd : (x == ("__classdict__" : Str)) = false := by decide)
    (he : starEach (e :: es) X.env = (false, eval e X.env) :: starEach es X.env := by rfl) (hpl : (backTo pos (starEach es X.env)).any (·.1) = false := by rfl) : VF X F W (.Call (.Name x p) (e :: es) [] pos) (rCallV i fs r) := ve_callV h hr tk hl ha hN hv hdb hcd he hpl
end VS

set_option maxHeartbeats 4000000
namespace VS
open PySem PySem.Spec PyProof.Rows L2
def fmtD : D → Option D
  | .str y => if y.length ≤ lim then some (.str y) else none
  | .int i => if i.natAbs.log2 < 1920 then some (.str (toString i : String)) else none
  | _ => none
@[simp] def rJ : List (Env → Sto → Res D) → Str → Env → Sto → Res D
  | [], acc => fun _ S => .ok (.str acc) S
  | r :: rs, acc => fun ρ S => (r ρ S).bind fun d S1 => match d with
    | .str y => if (acc ++ y).length ≤ lim then rJ rs (acc ++ y) ρ S1 else .stuck
    | _ => .stuck
section
variable {X : Cx} {F : Fr} {W : WX}
inductive VJ (X : Cx) (F : Fr) (W : WX) : List Expr → List (Env → Sto → Res D) → Prop
  | nil : VJ X F W [] []
  | cons {e : Expr} {r : Env → Sto → Res D} {es : List Expr} {rs : List (Env → Sto → Res D)} (h : VF X F W e r) (t : VJ X F W es rs) : VJ X F W (e :: es) (r :: rs)
theorem ve_fmt {e : Expr} {r : Env → Sto → Res D} {pos : Pos} (h : VF X F W e r) : VF X F W (.FormattedValue e (-1) none pos) (rUn fmtD r) := pe_imp (pe_fmt h) fun σ H Q q => by
  obtain ⟨ρ, S, β, hr, hp⟩ := q
  refine tG_bind anti_F hr hp fun x H1 d1 S1 β1 r1 e1 c1 p1 => ?_
  cases d1 with
  | str y =>
    cases c1
    have p1 : Post (zX X F) F W ρ σ β1 H1 (RF (zX X F)) (optR (if y.length ≤ lim then some (D.str y) else none) S1) Q := p1
    split at p1
    · rename_i hz
      exact .inl ⟨y, rfl, Nat.le_trans hz lim_le, tG_end r1 p1 (.refl _) (.str _)⟩
    · exact p1.elim
  | int i =>
    cases c1
    have p1 : Post (zX X F) F W ρ σ β1 H1 (RF (zX X F)) (optR (if i.natAbs.log2 < 1920 then some (D.str (toString i : String)) else none) S1) Q := p1
    split at p1
    · rename_i hz
      exact .inr ⟨i, rfl, hz, tG_end r1 p1 (.refl _) (.str _)⟩
    · exact p1.elim
  | _ => exact p1.elim
theorem pj_of {es : List Expr} {rs : List (Env → Sto → Res D)} (h : VJ X F W es rs) : PJ X es (rs.map fun r => tG (zX X F) F W (RF (zX X F)) r) := by
  induction h with
  | nil => exact .nil
  | cons h _ ih => exact .cons h ih
theorem js_read : ∀ (rs : List (Env → Sto → Res D)) (acc : Str) {ρ : Env} {S : Sto} {β : List Addr} {σ : L2.St} {H : Hp} {Q : VK}, Rel (zX X F) F ρ S β σ H → Post (zX X F) F W ρ σ β H (RF (zX X F)) (rJ rs acc ρ S) Q → tJs (rs.map fun r => tG (zX X F) F W (RF (zX X F)) r) acc σ H fun out H1 => Q (.str out) H1
  | [], acc, ρ, S, β, σ, H, Q, hr, hp => tG_end hr hp (.refl _) (.str _)
  | r :: rs, acc, ρ, S, β, σ, H, Q, hr, hp => by
    refine tG_bind anti_F hr hp fun x H1 d1 S1 β1 r1 e1 c1 p1 => ?_
    cases d1 with
    | str y =>
      cases c1
      have p1 : Post (zX X F) F W ρ σ β1 H1 (RF (zX X F)) (if (acc ++ y).length ≤ lim then rJ rs (acc ++ y) ρ S1 else .stuck) Q := p1
      split at p1
      · rename_i hz
        exact ⟨y, rfl, Nat.le_trans hz lim_le, js_read rs (acc ++ y) r1 p1⟩
      · exact p1.elim
    | _ => exact p1.elim
theorem ve_joined {v1 v2 : Expr} {rest : List Expr} {rs : List (Env → Sto → Res D)} {pos : Pos} (h : VJ X F W (v1 :: v2 :: rest) rs) : VF X F W (.JoinedStr (v1 :: v2 :: rest) pos) (rJ rs Str.empty) := pe_imp (pe_joined (pj_of h)) fun σ H Q q => by
  obtain ⟨ρ, S, β, hr, hp⟩ := q
  exact js_read rs Str.empty hr hp
@[simp] def rPreS (i : Nat) (r : RS) : RS := fun ρ S => r (fzAt i ρ) S
theorem vs_pre {st : Stmt} {r : RS} (i : Nat) (h : VS1 X F W st r) : VS1 X F W st (rPreS i r) := by
  refine ⟨fun pins s σ H Dn I q => ?_⟩
  obtain ⟨ρ, S, β, hr, hp⟩ := q
  have hp : PostS X F W β H (r (fzAt i ρ) S) Dn := hp
  cases e : ρ[i]? with
  | none =>
    have e2 : fzAt i ρ = ρ := by unfold fzAt; rw [e]
    rw [e2] at hp
    exact h.run pins s σ H Dn I ⟨ρ, S, β, hr, hp⟩
  | some sl =>
    cases sl with
    | ol l =>
      obtain ⟨a, vs, ha, hf⟩ := hr.fzAt e
      obtain ⟨o, I2⟩ := inv_freeze I ha
      exact h.run pins s σ _ Dn I2 ⟨_, S, β, (hf o).1, PostS.later (hf o).2 hp⟩
    | _ =>
      have e2 : fzAt i ρ = ρ := by unfold fzAt; rw [e]
      rw [e2] at hp
      exact h.run pins s σ H Dn I ⟨ρ, S, β, hr, hp⟩
def whileL (t : Env → Sto → Res Bool) (b : RS) : Nat → RS
  | 0 => fun _ _ => .stuck
  | n + 1 => fun ρ S => (t ρ S).thenS fun c S1 => if c = true then (match b ρ S1 with
      | .nx ρ2 S2 => whileL t b n ρ2 S2
      | .ct ρ2 S2 => whileL t b n ρ2 S2
      | .bk ρ2 S2 => .nx ρ2 S2
      | .rt d S2 => .rt d S2
      | .exc x S2 => .exc x S2
      | .stuck => .stuck) else .nx ρ S1
def rWhile (n : Nat) (t : Env → Sto → Res Bool) (b : RS) : RS := whileL t b n
theorem vs_while {c : Expr} {body : List Stmt} {t : Env → Sto → Res Bool} {b : RS} {pos : Pos} (n : Nat) (hp : PassesOwn (model X.prog X.w) X.A X.env X.xe) (hc : VT X F W c t) (hb : VSs X F W body b) : VS1 X F W (.While c body [] pos) (rWhile n t b) := ps_imp (ps_while hp hc hb) fun Dn σ H ⟨ρ, S, β, hr, hq⟩ => by
  refine ⟨fun m σ H => ∃ ρ S β, Rel (zX X F) F ρ S β σ H ∧ PostS X F W β H (whileL t b m ρ S) Dn, ⟨n, ρ, S, β, hr, hq⟩, ?_⟩
  rintro m σ H ⟨ρ, S, β, hr, hp⟩
  cases m with
  | zero => exact hp.elim
  | succ m =>
    have hp : PostS X F W β H ((t ρ S).thenS fun c S1 => if c = true then (match b ρ S1 with
      | .nx ρ2 S2 => whileL t b m ρ2 S2
      | .ct ρ2 S2 => whileL t b m ρ2 S2
      | .bk ρ2 S2 => .nx ρ2 S2
      | .rt d S2 => .rt d S2
      | .exc x S2 => .exc x S2
      | .stuck => .stuck) else .nx ρ S1) Dn := hp
    refine tG_then hr hp fun x H1 d S1 β1 r1 e1 c1 p1 => ?_
    cases c1
    cases x with
    | false => exact p1 σ H1 β1 r1 (.refl _ _)
    | true =>
      refine ⟨fun σ' H' => ∃ ρ S β, Rel (zX X F) F ρ S β σ' H' ∧ PostS X F W β H' (whileL t b m ρ S) Dn, fun σ' H' q => ⟨m, Nat.lt_succ_self m, q⟩, ρ, S1, β1, r1, ?_⟩
      have p1 : PostS X F W β1 H1 (match b ρ S1 with
        | .nx ρ2 S2 => whileL t b m ρ2 S2
        | .ct ρ2 S2 => whileL t b m ρ2 S2
        | .bk ρ2 S2 => .nx ρ2 S2
        | .rt d S2 => .rt d S2
        | .exc x S2 => .exc x S2
        | .stuck => .stuck) Dn := p1
      cases eb : b ρ S1 with
      | nx ρ2 S2 =>
        rw [eb] at p1
        exact fun σ3 H3 β3 r3 s3 => ⟨ρ2, S2, β3, r3, PostS.later s3 p1⟩
      | ct ρ2 S2 =>
        rw [eb] at p1
        exact fun σ3 H3 β3 r3 s3 => ⟨ρ2, S2, β3, r3, PostS.later s3 p1⟩
      | bk ρ2 S2 => rw [eb] at p1; exact p1
      | rt d S2 => rw [eb] at p1; exact p1
      | exc x S2 => rw [eb] at p1; exact p1
      | stuck => rw [eb] at p1; exact p1
end
end VS

set_option maxHeartbeats 4000000
namespace VS
open PySem PySem.Spec PyProof.Rows L2
def intQ : List D → Option D
  | [.int i] => some (.int i)
  | [.bl b] => some (.int (if b then 1 else 0))
  | [.str z] => if z.length ≤ 640 then (PySem.intText? z).map .int else none
  | _ => none
def maxL : List Int → Int
  | [] => 0
  | [x] => x
  | x :: y :: l => if maxL (y :: l) ≤ x then x else maxL (y :: l)
theorem maxL_mem : ∀ {l : List Int}, l ≠ [] → maxL l ∈ l ∧ ∀ y ∈ l, y ≤ maxL l
  | [], h => absurd rfl h
  | [x], _ => by simp [maxL]
  | x :: y :: l, _ => by
    have ih := maxL_mem (l := y :: l) (by simp)
    unfold maxL
    split
    · rename_i hx
      refine ⟨by simp, fun z hz => ?_⟩
      rcases List.mem_cons.mp hz with rfl | hz
      · omega
      · have := ih.2 z hz; omega
    · rename_i hx
      refine ⟨List.mem_cons_of_mem _ ih.1, fun z hz => ?_⟩
      rcases List.mem_cons.mp hz with rfl | hz
      · omega
      · exact ih.2 z hz
def maxD : List D → Option D
  | [.lst l] => match intsOf l with
    | some ns => if ns ≠ [] then some (.int (maxL ns)) else none
    | none => none
  | _ => none
def minD : List D → Option D
  | [.int i, .int j] => some (.int (if j < i then j else i))
  | _ => none
/-- list(range(n)) -/
def rangeL : List D → Option (List D)
  | [.int n] => if 0 ≤ n ∧ n < 1000000 then some ((List.range n.toNat).map fun (i : Nat) => .int (i : Int)) else none
  | _ => none
section
variable {X : Cx} {F : Fr}
theorem cl_intQ : VCl X F (.type "int") (RF (zX X F)) intQ := by
  refine ⟨_, call_int1.or call_int_str, fun vs ds c β H Q _ r e q => ?_⟩
  match ds, e with
  | [.int i], e =>
    cases e
    obtain ⟨v, rfl, r1⟩ := one_arg r
    cases r1.rep (fun _ z => by cases z)
    exact .inl (.inl ⟨i, rfl, q _ H (.refl _) (.int _)⟩)
  | [.bl b], e =>
    cases e
    obtain ⟨v, rfl, r1⟩ := one_arg r
    cases r1.rep (fun _ z => by cases z)
    exact .inl (.inr ⟨b, rfl, q _ H (.refl _) (.int _)⟩)
  | [.str x], e =>
    obtain ⟨v, rfl, r1⟩ := one_arg r
    cases r1.rep (fun _ z => by cases z)
    have e : (if x.length ≤ 640 then (PySem.intText? x).map D.int else none) = some c := e
    split at e
    · rename_i hz
      cases e2 : PySem.intText? x with
      | none => rw [e2] at e; cases e
      | some n =>
        rw [e2] at e
        cases e
        exact .inr ⟨x, n, rfl, e2, hz, q _ H (.refl _) (.int _)⟩
    · cases e
theorem cl_max (hc : X.calm = true) : VCl X F (.builtin "max") (RF (zX X F)) maxD := by
  refine ⟨_, cr_max hc, fun vs ds c β H Q _ r e q => ?_⟩
  match ds, e with
  | [.lst l], e =>
    obtain ⟨v, rfl, r1⟩ := one_arg r
    obtain ⟨a, ws, rfl, g, h⟩ := r1.ls.sq
    have e : (match intsOf l with | some ns => if ns ≠ [] then some (D.int (maxL ns)) else none | none => none) = some c := e
    cases e1 : intsOf l with
    | none => rw [e1] at e; cases e
    | some ns =>
      rw [e1] at e
      have e : (if ns ≠ [] then some (D.int (maxL ns)) else none) = some c := e
      split at e
      · rename_i hne
        cases e
        rw [intsOf_eq e1] at g
        refine ⟨a, ns, rfl, by rw [← g.ints]; exact h, List.length_pos_iff.mpr hne, fun m hm hle => ?_⟩
        have mm := maxL_mem hne
        have e3 : m = maxL ns := by
          have h1 := hle _ mm.1
          have h2 := mm.2 _ hm
          omega
        subst e3
        exact q _ H (.refl _) (.int _)
      · cases e
theorem cl_min (hc : X.calm = true) : VCl X F (.builtin "min") (RF (zX X F)) minD := by
  refine ⟨_, call_min2 hc, fun vs ds c β H Q _ r e q => ?_⟩
  match ds, e with
  | [.int i, .int j], e =>
    cases e
    cases r with
    | cons r1 t =>
      cases t with
      | cons r2 t =>
        cases t
        cases r1.rep (fun _ z => by cases z)
        cases r2.rep (fun _ z => by cases z)
        exact ⟨i, j, rfl, q _ H (.refl _) (.int _)⟩
theorem ve_listRg {W : WX} {a : Expr} {ra : Env → Sto → Res (List D)} {p pos p2 pos2 : Pos} {ea : Env → Sto → Res D} (hc : X.calm = true) (hg : Gl X "list") (hm : X.mg "list" = none) (hg2 : Gl X "range") (hm2 : X.mg "range" = none) (ha : VF X F W a ea) (na2 : starEach [a] X.env = (false, eval a X.env) :: starEach [] X.env := by rfl)
    (na : starEach [.Call (.Name "range" p2) [a] [] pos2] X.env = (false, eval (.Call (.Name "range" p2) [a] [] pos2) X.env) :: starEach [] X.env := by rfl) : VO X F W (.Call (.Name "list" p) [.Call (.Name "range" p2) [a] [] pos2] [] pos) (rCl rangeL (rCons ea rNil)) := pe_imp (pe_listRg hc hg hm (prg_1 hg2 hm2 ha na2) na) fun σ H Q q => by
  obtain ⟨ρ, S, β, hr, hp⟩ := q
  have hp : Post (zX X F) F W ρ σ β H (RO (zX X F)) ((ea ρ S).bind fun d S1 => optR (rangeL [d]) S1) Q := by
    have e : (rCl rangeL (rCons ea rNil)) ρ S = (ea ρ S).bind fun d S1 => optR (rangeL [d]) S1 := by
      unfold rCl rCons rNil
      cases ea ρ S <;> rfl
    rw [e] at hp
    exact hp
  refine tG_bind anti_O hr hp fun x H1 d1 S1 β1 r1 e1 c1 p1 => ?_
  cases d1 with
  | int n =>
    cases c1
    have p1 : Post (zX X F) F W ρ σ β1 H1 (RO (zX X F)) (optR (if 0 ≤ n ∧ n < 1000000 then some ((List.range n.toNat).map fun (i : Nat) => D.int (i : Int)) else none) S1) Q := p1
    split at p1
    · rename_i hz
      refine ⟨n, rfl, RgOk.of_le (by omega) (by omega) (by omega) (by omega), fun z nz => ?_⟩
      refine tG_end r1 p1 (.new nz) ⟨z, _, rfl, nz, upd_same, ?_, r1.sto.notin nz⟩
      unfold rgV
      have e0 : (n - 0).toNat = n.toNat := by omega
      rw [e0]
      have : ∀ l : List Nat, Reps (zX X F) β1 (upd H1 z (.lst (l.map fun i => V.int (0 + (i : Nat))))) (l.map fun i => V.int (0 + (i : Nat))) (l.map fun (i : Nat) => D.int (i : Int)) := fun l => by
        have key : ∀ (HH : Hp) (l : List Nat), Reps (zX X F) β1 HH (l.map fun i => V.int (0 + (i : Nat))) (l.map fun (i : Nat) => D.int (i : Int)) := fun HH l => by
          induction l with
          | nil => exact .nil
          | cons i l ih =>
            refine .cons ?_ ih
            show Rep (zX X F) β1 HH (V.int (0 + (i : Nat))) (D.int (i : Int))
            rw [Int.zero_add]
            exact .int _
        exact key _ l
      exact this _
    · exact p1.elim
  | _ => exact p1.elim
end
end VS

set_option maxHeartbeats 4000000
namespace VS
open PySem PySem.Spec PyProof.Rows L2
@[simp] theorem nox_bind_ok {α β : Type} (a : α) (S : Sto) (k : α → Sto → Res β) : ((Res.ok a S).nox).bind k = k a S := rfl
theorem lcL_pure {g : D → Env → Option Env} {t : Env → Sto → Res Bool} {e : Env → Sto → Res D} {ρ : Env} {S : Sto} (f : D → D) (p : D → Bool) : ∀ (l acc : List D), (∀ d ∈ l, ∃ ρ1, g d ρ = some ρ1 ∧ t ρ1 S = .ok (p d) S ∧ (p d = true → e ρ1 S = .ok (f d) S)) → acc.length + l.length ≤ lim →
    lcL g t e ρ l acc S = .ok (acc ++ (l.filter p).map f) S
  | [], acc, _, _ => by simp [lcL]
  | d :: l, acc, h, hl => by
    obtain ⟨ρ1, h1, h2, h3⟩ := h d (List.mem_cons_self ..)
    have hr := fun acc' (hl' : acc'.length + l.length ≤ lim) => lcL_pure f p l acc' (fun x hx => h x (List.mem_cons_of_mem _ hx)) hl'
    unfold lcL
    rw [h1]
    simp only [h2, nox_bind_ok]
    simp only [List.length_cons] at hl
    cases hp : p d with
    | false =>
      simp only [Bool.false_eq_true, if_false, List.filter_cons, hp]
      exact hr acc (by omega)
    | true =>
      simp only [if_true, h3 hp, nox_bind_ok, List.filter_cons, hp]
      rw [if_pos (by omega), hr _ (by simp; omega)]
      simp
/-- without a test -/
theorem lcL_map {g : D → Env → Option Env} {e : Env → Sto → Res D} {ρ : Env} {S : Sto} (f : D → D) (l : List D) (h : ∀ d ∈ l, ∃ ρ1, g d ρ = some ρ1 ∧ e ρ1 S = .ok (f d) S) (hl : l.length ≤ lim) :
    lcL g rYes e ρ l [] S = .ok (l.map f) S := by
  rw [lcL_pure f (fun _ => true) l [] (fun d hd => by obtain ⟨ρ1, h1, h2⟩ := h d hd; exact ⟨ρ1, h1, rfl, fun _ => h2⟩) (by simpa using hl)]
  rw [List.nil_append, List.filter_eq_self.mpr (fun _ _ => rfl)]
theorem boolsOf_map (p : D → Bool) : ∀ l : List D, boolsOf (l.map fun d => .bl (p d)) = some (l.map p)
  | [] => rfl
  | d :: l => by simp [boolsOf, boolsOf_map p l]
theorem allD_map (p : D → Bool) (l : List D) : allD [.lst (l.map fun d => .bl (p d))] = some (.bl (l.all p)) := by
  simp [allD, boolsOf_map]
/-- data of depth n at most, no list longer than m -/
def gd (m : Nat) : Nat → D → Bool
  | _, .non => true
  | _, .bl _ => true
  | _, .int _ => true
  | _, .str x => PyData.strOk x && decide (x.length ≤ 1000)
  | n + 1, .tup l => decide (l.length ≤ m) && l.all (gd m n)
  | n + 1, .lst l => decide (l.length ≤ m) && l.all (gd m n)
  | _, _ => false
theorem gd_tup {m n : Nat} {l : List D} (h : gd m n (.tup l) = true) : ∃ k, n = k + 1 ∧ l.length ≤ m ∧ ∀ d ∈ l, gd m k d = true := by
  cases n with
  | zero => simp [gd] at h
  | succ k =>
    simp [gd] at h
    exact ⟨k, rfl, h.1, h.2⟩
theorem gd_lst {m n : Nat} {l : List D} (h : gd m n (.lst l) = true) : ∃ k, n = k + 1 ∧ l.length ≤ m ∧ ∀ d ∈ l, gd m k d = true := by
  cases n with
  | zero => simp [gd] at h
  | succ k =>
    simp [gd] at h
    exact ⟨k, rfl, h.1, h.2⟩
theorem gd_mono {m m' : Nat} (hm : m ≤ m') : ∀ {n n' : Nat} {d : D}, n ≤ n' → gd m n d = true → gd m' n' d = true
  | n, n', .non, _, _ => by simp [gd]
  | n, n', .bl _, _, _ => by simp [gd]
  | n, n', .int _, _, _ => by simp [gd]
  | n, n', .str x, _, h => by simpa [gd] using h
  | n, n', .tup l, hn, h => by
    obtain ⟨k, rfl, h1, h2⟩ := gd_tup h
    cases n' with
    | zero => omega
    | succ k' =>
      simp only [gd, Bool.and_eq_true, decide_eq_true_eq, List.all_eq_true]
      exact ⟨by omega, fun d hd => gd_mono hm (by omega) (h2 d hd)⟩
  | n, n', .lst l, hn, h => by
    obtain ⟨k, rfl, h1, h2⟩ := gd_lst h
    cases n' with
    | zero => omega
    | succ k' =>
      simp only [gd, Bool.and_eq_true, decide_eq_true_eq, List.all_eq_true]
      exact ⟨by omega, fun d hd => gd_mono hm (by omega) (h2 d hd)⟩
  | n, n', .obj _, _, h => by cases n <;> simp [gd] at h
  | n, n', .fn _, _, h => by cases n <;> simp [gd] at h
  | n, n', .adr _, _, h => by cases n <;> simp [gd] at h
theorem okDs_all : ∀ l : List D, okDs l = l.all okD
  | [] => rfl
  | d :: l => by simp [okDs, okDs_all l]
theorem deps_le {n : Nat} : ∀ {l : List D}, (∀ d ∈ l, dep d ≤ n) → deps l ≤ n
  | [], _ => by simp [deps]
  | d :: l, h => by
    simp only [deps]
    exact Nat.max_le.mpr ⟨h d (List.mem_cons_self ..), deps_le fun x hx => h x (List.mem_cons_of_mem _ hx)⟩
theorem gd_ok {m : Nat} : ∀ {n : Nat} {d : D}, gd m n d = true → okD d = true ∧ dep d ≤ n
  | n, .non, _ => by simp [okD, dep]
  | n, .bl _, _ => by simp [okD, dep]
  | n, .int _, _ => by simp [okD, dep]
  | n, .str x, h => by
    have h : PyData.strOk x = true ∧ x.length ≤ 1000 := by cases n <;> simpa [gd] using h
    simp [okD, dep, h.1]
  | n, .tup l, h => by
    obtain ⟨k, rfl, h1, h2⟩ := gd_tup h
    refine ⟨?_, ?_⟩
    · simp only [okD, okDs_all, List.all_eq_true]
      exact fun d hd => (gd_ok (h2 d hd)).1
    · simp only [dep]
      have := deps_le fun d hd => (gd_ok (h2 d hd)).2
      omega
  | n, .lst l, h => by
    obtain ⟨k, rfl, h1, h2⟩ := gd_lst h
    refine ⟨?_, ?_⟩
    · simp only [okD, okDs_all, List.all_eq_true]
      exact fun d hd => (gd_ok (h2 d hd)).1
    · simp only [dep]
      have := deps_le fun d hd => (gd_ok (h2 d hd)).2
      omega
  | n, .obj _, h => by cases n <;> simp [gd] at h
  | n, .fn _, h => by cases n <;> simp [gd] at h
  | n, .adr _, h => by cases n <;> simp [gd] at h
theorem gd_shp {m n : Nat} {d : D} (h : gd m n d = true) (hn : n ≤ 60) : shp d = true := by
  obtain ⟨h1, h2⟩ := gd_ok h
  unfold shp
  rw [h1]
  simp
  omega
/-- a good run: it ends well, and so -/
inductive okR {α : Type} : Res α → (α → Sto → Prop) → Prop where
  | ok {a : α} {S : Sto} {P : α → Sto → Prop} (h : P a S) : okR (.ok a S) P
theorem okR_iff {α : Type} {r : Res α} {P : α → Sto → Prop} : okR r P ↔ ∃ a S, r = .ok a S ∧ P a S := by
  constructor
  · intro h
    cases h with
    | ok h => exact ⟨_, _, rfl, h⟩
  · rintro ⟨a, S, rfl, h⟩
    exact .ok h
end VS

set_option maxHeartbeats 4000000
namespace VS
open PySem PySem.Spec PyProof.Rows L2
@[simp] theorem resOf_rt (d : D) (S : Sto) : resOf (.rt d S) = .ok d S := rfl
@[simp] theorem resOf_nx (ρ : Env) (S : Sto) : resOf (.nx ρ S) = .ok .non S := rfl
@[simp] theorem resOf_exc (x : Exn) (S : Sto) : resOf (.exc x S) = .exc x S := rfl
@[simp] theorem resOf_ret (r : Res D) : resOf (r.thenS fun d S => .rt d S) = r := by cases r <;> rfl
theorem ite_and (c : Prop) [Decidable c] (p : Bool) (S : Sto) : (if c then Res.ok (D.bl p) S else Res.ok (D.bl false) S) = Res.ok (D.bl (decide c && p)) S := by
  by_cases h : c <;> simp [h]
/-- a loop that looks at each item and answers False at the first that fails -/
theorem forL_all {g : D → Env → Option Env} {b : RS} {S : Sto} {I : Env → Prop} {p : D → Bool} : ∀ {l : List D} {ρ : Env}, (∀ d ∈ l, ∀ ρ, I ρ → ∃ ρ1, g d ρ = some ρ1 ∧ ((p d = true ∧ ∃ ρ2, b ρ1 S = .nx ρ2 S ∧ I ρ2) ∨ (p d = false ∧ b ρ1 S = .rt (.bl false) S))) → I ρ →
    ((l.all p = true ∧ ∃ ρ2, forL g b l ρ S = .nx ρ2 S ∧ I ρ2) ∨ (l.all p = false ∧ forL g b l ρ S = .rt (.bl false) S))
  | [], ρ, h, i => .inl ⟨rfl, ρ, rfl, i⟩
  | d :: l, ρ, h, i => by
    obtain ⟨ρ1, h1, h2⟩ := h d (List.mem_cons_self ..) ρ i
    rcases h2 with ⟨hp, ρ2, h2, i2⟩ | ⟨hp, h2⟩
    · have := forL_all (l := l) (fun x hx => h x (List.mem_cons_of_mem _ hx)) i2
      unfold forL
      simp only [h1, h2, List.all_cons, hp, Bool.true_and]
      exact this
    · unfold forL
      simp only [h1, h2, List.all_cons, hp, Bool.false_and]
      simp
/-- all, or the answer False -/
def aof (fl : Fl) (S : Sto) (I : Env → Prop) (c : Bool) : Prop := (c = true ∧ ∃ ρ2, fl = .nx ρ2 S ∧ I ρ2) ∨ (c = false ∧ fl = .rt (.bl false) S)
theorem aof_for {g : D → Env → Option Env} {b : RS} {S : Sto} {I : Env → Prop} {p : D → Bool} {l : List D} {ρ : Env} (h : ∀ d ∈ l, ∀ ρ, I ρ → ∃ ρ1, g d ρ = some ρ1 ∧ aof (b ρ1 S) S I (p d)) (i : I ρ) : aof (forL g b l ρ S) S I (l.all p) := forL_all h i
theorem aof_nx {S : Sto} {I : Env → Prop} {ρ : Env} (i : I ρ) : aof (.nx ρ S) S I true := .inl ⟨rfl, ρ, rfl, i⟩
theorem aof_no {S : Sto} {I : Env → Prop} : aof (.rt (.bl false) S) S I false := .inr ⟨rfl, rfl⟩
theorem aof_end {fl : Fl} {S : Sto} {I : Env → Prop} {c r : Bool} {rest : RS} (h : aof fl S I c) (hr : ∀ ρ, I ρ → c = true → rest ρ S = .rt (.bl r) S) : resOf (rSeq (fun _ _ => fl) rest [] S) = .ok (.bl (c && r)) S := by
  rcases h with ⟨rfl, ρ2, rfl, i⟩ | ⟨rfl, rfl⟩
  · simp [hr _ i]
  · simp
theorem aof_seq {fl : Fl} {S : Sto} {I J : Env → Prop} {c c' : Bool} {rest : RS} (h : aof fl S I c) (hr : ∀ ρ, I ρ → aof (rest ρ S) S J c') : aof (rSeq (fun _ _ => fl) rest [] S) S J (c && c') := by
  rcases h with ⟨rfl, ρ2, rfl, i⟩ | ⟨rfl, rfl⟩
  · simpa using hr _ i
  · simp [aof]
@[simp] theorem neD_int (i j : Int) : neD (.int i) (.int j) = some (.bl (!decide (i = j))) := by simp [neD, shp, okD, dep, eqB]; rfl
@[simp] theorem eqD_int (i j : Int) : eqD (.int i) (.int j) = some (.bl (decide (i = j))) := by simp [eqD, shp, okD, dep, eqB]; rfl
end VS

set_option maxHeartbeats 4000000
namespace Gk09
open PySem PySem.Spec PyProof.Rows L2 VS
abbrev topS (i : Nat) : Stmt := PySem.Challenge.pw_moodsuntold_k09_texts_of_cooks.main.body.getD i (.Pass ⟨0, 0, 0, 0⟩)
def fnT : List (Str × Stmt) := [(("is_within" : Str), topS 20), (("has_items" : Str), topS 21), (("is_habit" : Str), topS 22), (("is_mood" : Str), topS 23), (("is_guest_value" : Str), topS 24), (("is_row_value" : Str), topS 25), (("is_look_value" : Str), topS 26), (("is_stand_value" : Str), topS 27), (("is_lot_value" : Str), topS 28), (("need_row" : Str), topS 29), (("need_look" : Str), topS 30), (("need_lot" : Str), topS 31), (("need_cook" : Str), topS 32), (("mood_word" : Str), topS 36), (("lines_of" : Str), topS 37), (("habit_in" : Str), topS 38), (("guest_in" : Str), topS 39), (("piece_of" : Str), topS 40), (("cook_in" : Str), topS 41), (("cook_text" : Str), topS 42), (("read_cook" : Str), topS 43), (("_law_deck" : Str), topS 45), (("_law_pick" : Str), topS 46), (("_law_one" : Str), topS 47), (("_law_sort" : Str), topS 48), (("_law_same" : Str), topS 49), (("_law_kin" : Str), topS 50), (("_law_try" : Str), topS 51), (("_law_a_guest" : Str), topS 52), (("_law_a_row" : Str), topS 53), (("_law_every" : Str), topS 54), (("_law_a_lot" : Str), topS 55), (("_law_known" : Str), topS 56), (("_law_writing" : Str), topS 57), (("law" : Str), topS 58)]
def frL : List Str := ["isinstance", "int", "bool", "tuple", "len", "all", "str", "zip", "range", "enumerate", "list", "ValueError"]
def exL : List Str := ["InvalidRow", "InvalidLook", "InvalidLot"]
def kt : Str → Option Str := fun c => if c = "InvalidRow" then some "row +" else if c = "InvalidLook" then some "look +" else if c = "InvalidLot" then some "lot +" else none
structure Top (K : PySem.W.Frag) (mg : Str → Option Value) : Prop where
  fn : ∀ (i : Nat) {p : Str × Stmt}, fnT[i]? = some p → ∃ f fd, Fun K p.1 p.1 p.2 f fd ∧ mg p.1 = some (.ref f)
  fr : ∀ (i : Nat) {x : Str}, frL[i]? = some x → mg x = none
  exc : ∀ (i : Nat) {x : Str}, exL[i]? = some x → ∃ C, ExcG K mg x C
  c_MOST_MOODS : Gc K mg "MOST_MOODS" (.int 3)
  c_MOST_GUESTS : Gc K mg "MOST_GUESTS" (.int 2)
  c_LOOKS : Gc K mg "LOOKS" (.tup [.str "who", .str "left", .str "none"])
  c_WORDS : Gc K mg "WORDS" (.tup [.str "pass", .str "take"])
  c_MOODS : Gc K mg "MOODS" (.tup [.str "0", .str "1", .str "2"])
def lamL : List Str := ["law"]
structure Lm (P : Program) (w : World) (K : PySem.W.Frag) (mg : Str → Option Value) (base : Heap) (T : List (Addr × Str)) (IT TM ME : Addr) : Prop where
  kw : KinW P w K mg base T kt 1 IT TM ME
  lt : ∀ (i : Nat) {x : Str}, lamL[i]? = some x → LamT K mg base T x
section
variable {P : Program} {w : World} {K : PySem.W.Frag} {mg : Str → Option Value} {base : Heap} {T : List (Addr × Str)}

def N_is_within : List Str := ["value", "low", "high"]
abbrev r_is_within : RS := (rRet (rAndV (rIsT "int" (rVar 0)) (rAndV (rNotV (rIsT "bool" (rVar 0))) (rChain leI leI (rVar 1) (rVar 0) (rVar 2)))))
def C_is_within : List D → Sto → Res D := fun ds S => resOf (r_is_within (env0 (N_is_within).length ds) S)
theorem d_is_within (Tp : Top K mg) : HasFn P w K mg base T "is_within" 1 3 C_is_within := by
  obtain ⟨f, fd, G, hm⟩ := Tp.fn 0 rfl
  have nd : (N_is_within).Nodup := by decide +kernel
  refine fn_mk (N := N_is_within) (ps := ["value", "low", "high"]) G ⟨rfl, rfl, rfl, nd, rfl, by decide +kernel, by decide +kernel⟩ hm (G.binds (fun _ _ _ _ _ _ us hl => match us, hl with | [_, _, _], _ => rfl)) r_is_within (fun cdv A outer s H E F hF hcv hr tk => ?_) fun ds S _ _ => rfl
  have hu := hr.units
  have hu0 := hr.units0
  have hu1 := room65 hr
  exact (vs_one (vs_ret (ve_and (ve_isi (vx_of_vf (qv 0)) (Tp.fr 0 rfl) (Tp.fr 1 rfl) (by decide +kernel)) (ve_and (ve_not (ve_isi (vx_of_vf (qv 0)) (Tp.fr 0 rfl) (Tp.fr 2 rfl) (by decide +kernel))) (ve_one (ve_chain vop_le vop_le (qv 1) (qv 0) (qv 2)))))))
theorem u_is_within (x0 x1 x2 : D) (S : Sto) : C_is_within [x0, x1, x2] S = resOf ((rRet (rAndV (rIsT "int" (rVar 0)) (rAndV (rNotV (rIsT "bool" (rVar 0))) (rChain leI leI (rVar 1) (rVar 0) (rVar 2))))) [.val x0, .val x1, .val x2] S) := rfl
def q0_is_within : RS := (rRet (rAndV (rIsT "int" (rVar 0)) (rAndV (rNotV (rIsT "bool" (rVar 0))) (rChain leI leI (rVar 1) (rVar 0) (rVar 2)))))
theorem v_is_within (x0 x1 x2 : D) (S : Sto) : C_is_within [x0, x1, x2] S = resOf (q0_is_within [.val x0, .val x1, .val x2] S) := rfl

def N_has_items : List Str := ["value", "low", "high"]
abbrev r_has_items : RS := (rRet (rAndV (rIsT "tuple" (rVar 0)) (rChain leI leI (rVar 1) (rCl lenD (rCons (rVar 0) rNil)) (rVar 2))))
def C_has_items : List D → Sto → Res D := fun ds S => resOf (r_has_items (env0 (N_has_items).length ds) S)
theorem d_has_items (Tp : Top K mg) : HasFn P w K mg base T "has_items" 1 3 C_has_items := by
  obtain ⟨f, fd, G, hm⟩ := Tp.fn 1 rfl
  have nd : (N_has_items).Nodup := by decide +kernel
  refine fn_mk (N := N_has_items) (ps := ["value", "low", "high"]) G ⟨rfl, rfl, rfl, nd, rfl, by decide +kernel, by decide +kernel⟩ hm (G.binds (fun _ _ _ _ _ _ us hl => match us, hl with | [_, _, _], _ => rfl)) r_has_items (fun cdv A outer s H E F hF hcv hr tk => ?_) fun ds S _ _ => rfl
  have hu := hr.units
  have hu0 := hr.units0
  have hu1 := room65 hr
  exact (vs_one (vs_ret (ve_and (ve_isi (vx_of_vf (qv 0)) (Tp.fr 0 rfl) (Tp.fr 3 rfl) (by decide +kernel)) (ve_one (ve_chain vop_le vop_le (qv 1) (ve_callB cl_len anti_F (vax_cons (vx_of_vf (qv 0)) vax_nil) (Tp.fr 4 rfl) (by decide +kernel)) (qv 2))))))
theorem u_has_items (x0 x1 x2 : D) (S : Sto) : C_has_items [x0, x1, x2] S = resOf ((rRet (rAndV (rIsT "tuple" (rVar 0)) (rChain leI leI (rVar 1) (rCl lenD (rCons (rVar 0) rNil)) (rVar 2)))) [.val x0, .val x1, .val x2] S) := rfl
def q0_has_items : RS := (rRet (rAndV (rIsT "tuple" (rVar 0)) (rChain leI leI (rVar 1) (rCl lenD (rCons (rVar 0) rNil)) (rVar 2))))
theorem v_has_items (x0 x1 x2 : D) (S : Sto) : C_has_items [x0, x1, x2] S = resOf (q0_has_items [.val x0, .val x1, .val x2] S) := rfl

def N_is_habit : List Str := ["value", "moods"]
abbrev r_is_habit : RS := (rRet (rAndV (rCall C_has_items (rCons (rVar 0) (rCons (rC (.int 2)) (rCons (rC (.int 2)) rNil)))) (rAndV (rIsT "bool" (rBin ixD (rVar 0) (rC (.int 0)))) (rCall C_is_within (rCons (rBin ixD (rVar 0) (rC (.int 1))) (rCons (rC (.int 0)) (rCons (rBin subD (rVar 1) (rC (.int 1))) rNil)))))))
def C_is_habit : List D → Sto → Res D := fun ds S => resOf (r_is_habit (env0 (N_is_habit).length ds) S)
theorem d_is_habit (Tp : Top K mg) : HasFn P w K mg base T "is_habit" 2 2 C_is_habit := by
  obtain ⟨f, fd, G, hm⟩ := Tp.fn 2 rfl
  have nd : (N_is_habit).Nodup := by decide +kernel
  refine fn_mk (N := N_is_habit) (ps := ["value", "moods"]) G ⟨rfl, rfl, rfl, nd, rfl, by decide +kernel, by decide +kernel⟩ hm (G.binds (fun _ _ _ _ _ _ us hl => match us, hl with | [_, _], _ => rfl)) r_is_habit (fun cdv A outer s H E F hF hcv hr tk => ?_) fun ds S _ _ => rfl
  have hu := hr.units
  have hu0 := hr.units0
  have hu1 := room65 hr
  exact (vs_one (vs_ret (ve_and (ve_call (d_has_items Tp) hr tk (lens_cons (lens_cons (lens_cons lens_nil))) (va_cons (qv 0) (va_cons ve_int (va_cons ve_int va_nil)))) (ve_and (ve_isi (vx_of_vf (ve_ix (vx_of_vf (qv 0)) ve_int)) (Tp.fr 0 rfl) (Tp.fr 2 rfl) (by decide +kernel)) (ve_one (ve_call (d_is_within Tp) hr tk (lens_cons (lens_cons (lens_cons lens_nil))) (va_cons (ve_ix (vx_of_vf (qv 0)) ve_int) (va_cons ve_int (va_cons (ve_bin vop_sub mon_F mon_F anti_F (qv 1) ve_int) va_nil)))))))))
theorem u_is_habit (x0 x1 : D) (S : Sto) : C_is_habit [x0, x1] S = resOf ((rRet (rAndV (rCall C_has_items (rCons (rVar 0) (rCons (rC (.int 2)) (rCons (rC (.int 2)) rNil)))) (rAndV (rIsT "bool" (rBin ixD (rVar 0) (rC (.int 0)))) (rCall C_is_within (rCons (rBin ixD (rVar 0) (rC (.int 1))) (rCons (rC (.int 0)) (rCons (rBin subD (rVar 1) (rC (.int 1))) rNil))))))) [.val x0, .val x1] S) := rfl
def q0_is_habit : RS := (rRet (rAndV (rCall C_has_items (rCons (rVar 0) (rCons (rC (.int 2)) (rCons (rC (.int 2)) rNil)))) (rAndV (rIsT "bool" (rBin ixD (rVar 0) (rC (.int 0)))) (rCall C_is_within (rCons (rBin ixD (rVar 0) (rC (.int 1))) (rCons (rC (.int 0)) (rCons (rBin subD (rVar 1) (rC (.int 1))) rNil)))))))
theorem v_is_habit (x0 x1 : D) (S : Sto) : C_is_habit [x0, x1] S = resOf (q0_is_habit [.val x0, .val x1] S) := rfl

def N_is_mood : List Str := ["kinds", "value", "moods", "habit"]
abbrev r_is_mood : RS := (rRet (rAndV (rCall C_has_items (rCons (rVar 1) (rCons (rVar 0) (rCons (rVar 0) rNil)))) (rCl allD (rCons (rUp (rLc (rItems (rVar 1)) [3] (gN 3) rYes (rCall C_is_habit (rCons (rVar 3) (rCons (rVar 2) rNil))))) rNil))))
def C_is_mood : List D → Sto → Res D := fun ds S => resOf (r_is_mood (env0 (N_is_mood).length ds) S)
theorem d_is_mood (Tp : Top K mg) : HasFn P w K mg base T "is_mood" 3 3 C_is_mood := by
  obtain ⟨f, fd, G, hm⟩ := Tp.fn 3 rfl
  have nd : (N_is_mood).Nodup := by decide +kernel
  refine fn_mk (N := N_is_mood) (ps := ["kinds", "value", "moods"]) G ⟨rfl, rfl, rfl, nd, rfl, by decide +kernel, by decide +kernel⟩ hm (G.binds (fun _ _ _ _ _ _ us hl => match us, hl with | [_, _, _], _ => rfl)) r_is_mood (fun cdv A outer s H E F hF hcv hr tk => ?_) fun ds S _ _ => rfl
  have hu := hr.units
  have hu0 := hr.units0
  have hu1 := room65 hr
  exact (vs_one (vs_ret (ve_and (ve_call ((d_has_items Tp).mono (by decide : 1 ≤ 2)) hr tk (lens_cons (lens_cons (lens_cons lens_nil))) (va_cons (qv 1) (va_cons (qv 0) (va_cons (qv 0) va_nil)))) (ve_one (ve_callB (cl_all rfl) anti_F (vax_cons (vx_of_vo (ve_lc rfl nd (vie_seq (vx_of_vf (qv 1))) (blkOk_by (own := [("habit", 3)]) (by kernel_rfl)) (fun _ _ _ _ _ => (qg 3 nd)) (fun _ _ _ _ _ => vts_nil) (fun _ _ _ _ _ => (ve_call (d_is_habit Tp) hr tk0 (lens_cons (lens_cons lens_nil)) (va_cons (qv 3) (va_cons (qv 2) va_nil)))) (by decide))) vax_nil) (Tp.fr 5 rfl) (by decide +kernel))))))
theorem u_is_mood (x0 x1 x2 : D) (S : Sto) : C_is_mood [x0, x1, x2] S = resOf ((rRet (rAndV (rCall C_has_items (rCons (rVar 1) (rCons (rVar 0) (rCons (rVar 0) rNil)))) (rCl allD (rCons (rUp (rLc (rItems (rVar 1)) [3] (gN 3) rYes (rCall C_is_habit (rCons (rVar 3) (rCons (rVar 2) rNil))))) rNil)))) [.val x0, .val x1, .val x2, .un] S) := rfl
def q0_is_mood : RS := (rRet (rAndV (rCall C_has_items (rCons (rVar 1) (rCons (rVar 0) (rCons (rVar 0) rNil)))) (rCl allD (rCons (rUp (rLc (rItems (rVar 1)) [3] (gN 3) rYes (rCall C_is_habit (rCons (rVar 3) (rCons (rVar 2) rNil))))) rNil))))
theorem v_is_mood (x0 x1 x2 : D) (S : Sto) : C_is_mood [x0, x1, x2] S = resOf (q0_is_mood [.val x0, .val x1, .val x2, .un] S) := rfl

def N_is_guest_value : List Str := ["kinds", "value", "mood"]
abbrev r_is_guest_value : RS := (rRet (rAndV (rCall C_has_items (rCons (rVar 1) (rCons (rC (.int 1)) (rCons (rC (.int 3)) rNil)))) (rCl allD (rCons (rUp (rLc (rItems (rVar 1)) [2] (gN 2) rYes (rCall C_is_mood (rCons (rVar 0) (rCons (rVar 2) (rCons (rCl lenD (rCons (rVar 1) rNil)) rNil)))))) rNil))))
def C_is_guest_value : List D → Sto → Res D := fun ds S => resOf (r_is_guest_value (env0 (N_is_guest_value).length ds) S)
theorem d_is_guest_value (Tp : Top K mg) : HasFn P w K mg base T "is_guest_value" 4 2 C_is_guest_value := by
  obtain ⟨f, fd, G, hm⟩ := Tp.fn 4 rfl
  have nd : (N_is_guest_value).Nodup := by decide +kernel
  refine fn_mk (N := N_is_guest_value) (ps := ["kinds", "value"]) G ⟨rfl, rfl, rfl, nd, rfl, by decide +kernel, by decide +kernel⟩ hm (G.binds (fun _ _ _ _ _ _ us hl => match us, hl with | [_, _], _ => rfl)) r_is_guest_value (fun cdv A outer s H E F hF hcv hr tk => ?_) fun ds S _ _ => rfl
  have hu := hr.units
  have hu0 := hr.units0
  have hu1 := room65 hr
  exact (vs_one (vs_ret (ve_and (ve_call ((d_has_items Tp).mono (by decide : 1 ≤ 3)) hr tk (lens_cons (lens_cons (lens_cons lens_nil))) (va_cons (qv 1) (va_cons ve_int (va_cons (ve_glob Tp.c_MOST_MOODS) va_nil)))) (ve_one (ve_callB (cl_all rfl) anti_F (vax_cons (vx_of_vo (ve_lc rfl nd (vie_seq (vx_of_vf (qv 1))) (blkOk_by (own := [("mood", 2)]) (by kernel_rfl)) (fun _ _ _ _ _ => (qg 2 nd)) (fun _ _ _ _ _ => vts_nil) (fun _ _ _ _ _ => (ve_call (d_is_mood Tp) hr tk0 (lens_cons (lens_cons (lens_cons lens_nil))) (va_cons (qv 0) (va_cons (qv 2) (va_cons (ve_callB cl_len anti_F (vax_cons (vx_of_vf (qv 1)) vax_nil) (Tp.fr 4 rfl) (by decide +kernel)) va_nil))))) (by decide))) vax_nil) (Tp.fr 5 rfl) (by decide +kernel))))))
theorem u_is_guest_value (x0 x1 : D) (S : Sto) : C_is_guest_value [x0, x1] S = resOf ((rRet (rAndV (rCall C_has_items (rCons (rVar 1) (rCons (rC (.int 1)) (rCons (rC (.int 3)) rNil)))) (rCl allD (rCons (rUp (rLc (rItems (rVar 1)) [2] (gN 2) rYes (rCall C_is_mood (rCons (rVar 0) (rCons (rVar 2) (rCons (rCl lenD (rCons (rVar 1) rNil)) rNil)))))) rNil)))) [.val x0, .val x1, .un] S) := rfl
def q0_is_guest_value : VS.Env → Sto → Res D := (rCall C_is_mood (rCons (rVar 0) (rCons (rVar 2) (rCons (rCl lenD (rCons (rVar 1) rNil)) rNil))))
def q1_is_guest_value : RS := (rRet (rAndV (rCall C_has_items (rCons (rVar 1) (rCons (rC (.int 1)) (rCons (rC (.int 3)) rNil)))) (rCl allD (rCons (rUp (rLc (rItems (rVar 1)) [2] (gN 2) rYes q0_is_guest_value)) rNil))))
theorem v_is_guest_value (x0 x1 : D) (S : Sto) : C_is_guest_value [x0, x1] S = resOf (q1_is_guest_value [.val x0, .val x1, .un] S) := rfl

def N_is_row_value : List Str := ["value", "guest"]
abbrev r_is_row_value : RS := (rSeq (rIfS (rOr (rNot (rB (rCall C_has_items (rCons (rVar 0) (rCons (rC (.int 2)) (rCons (rC (.int 2)) rNil)))))) (rOr (rNot (rB (rCall C_is_within (rCons (rBin ixD (rVar 0) (rC (.int 0))) (rCons (rC (.int 1)) (rCons (rC (.int 3)) rNil)))))) (rNot (rB (rCall C_has_items (rCons (rBin ixD (rVar 0) (rC (.int 1))) (rCons (rC (.int 1)) (rCons (rC (.int 2)) rNil)))))))) (rRet (rC (.bl false))) rNext) (rRet (rCl allD (rCons (rUp (rLc (rItems (rBin ixD (rVar 0) (rC (.int 1)))) [1] (gN 1) rYes (rCall C_is_guest_value (rCons (rBin ixD (rVar 0) (rC (.int 0))) (rCons (rVar 1) rNil))))) rNil))))
def C_is_row_value : List D → Sto → Res D := fun ds S => resOf (r_is_row_value (env0 (N_is_row_value).length ds) S)
theorem d_is_row_value (Tp : Top K mg) : HasFn P w K mg base T "is_row_value" 5 1 C_is_row_value := by
  obtain ⟨f, fd, G, hm⟩ := Tp.fn 5 rfl
  have nd : (N_is_row_value).Nodup := by decide +kernel
  refine fn_mk (N := N_is_row_value) (ps := ["value"]) G ⟨rfl, rfl, rfl, nd, rfl, by decide +kernel, by decide +kernel⟩ hm (G.binds (fun _ _ _ _ _ _ us hl => match us, hl with | [_], _ => rfl)) r_is_row_value (fun cdv A outer s H E F hF hcv hr tk => ?_) fun ds S _ _ => rfl
  have hu := hr.units
  have hu0 := hr.units0
  have hu1 := room65 hr
  exact (vs_cons (vs_if (vt_w (vw_or (vt_not (vt_val (ve_call ((d_has_items Tp).mono (by decide : 1 ≤ 4)) hr tk (lens_cons (lens_cons (lens_cons lens_nil))) (va_cons (qv 0) (va_cons ve_int (va_cons ve_int va_nil)))))) (vw_or (vt_not (vt_val (ve_call ((d_is_within Tp).mono (by decide : 1 ≤ 4)) hr tk (lens_cons (lens_cons (lens_cons lens_nil))) (va_cons (ve_ix (vx_of_vf (qv 0)) ve_int) (va_cons ve_int (va_cons ve_int va_nil)))))) (vw_or1 (vt_not (vt_val (ve_call ((d_has_items Tp).mono (by decide : 1 ≤ 4)) hr tk (lens_cons (lens_cons (lens_cons lens_nil))) (va_cons (ve_ix (vx_of_vf (qv 0)) ve_int) (va_cons ve_int (va_cons (ve_glob Tp.c_MOST_GUESTS) va_nil)))))))))) (vs_one (vs_ret ve_bl)) vs_nil) (vs_one (vs_ret (ve_callB (cl_all rfl) anti_F (vax_cons (vx_of_vo (ve_lc rfl nd (vie_seq (vx_of_vf (ve_ix (vx_of_vf (qv 0)) ve_int))) (blkOk_by (own := [("guest", 1)]) (by kernel_rfl)) (fun _ _ _ _ _ => (qg 1 nd)) (fun _ _ _ _ _ => vts_nil) (fun _ _ _ _ _ => (ve_call (d_is_guest_value Tp) hr tk0 (lens_cons (lens_cons lens_nil)) (va_cons (ve_ix (vx_of_vf (qv 0)) ve_int) (va_cons (qv 1) va_nil)))) (by decide))) vax_nil) (Tp.fr 5 rfl) (by decide +kernel)))))
theorem u_is_row_value (x0 : D) (S : Sto) : C_is_row_value [x0] S = resOf ((rSeq (rIfS (rOr (rNot (rB (rCall C_has_items (rCons (rVar 0) (rCons (rC (.int 2)) (rCons (rC (.int 2)) rNil)))))) (rOr (rNot (rB (rCall C_is_within (rCons (rBin ixD (rVar 0) (rC (.int 0))) (rCons (rC (.int 1)) (rCons (rC (.int 3)) rNil)))))) (rNot (rB (rCall C_has_items (rCons (rBin ixD (rVar 0) (rC (.int 1))) (rCons (rC (.int 1)) (rCons (rC (.int 2)) rNil)))))))) (rRet (rC (.bl false))) rNext) (rRet (rCl allD (rCons (rUp (rLc (rItems (rBin ixD (rVar 0) (rC (.int 1)))) [1] (gN 1) rYes (rCall C_is_guest_value (rCons (rBin ixD (rVar 0) (rC (.int 0))) (rCons (rVar 1) rNil))))) rNil)))) [.val x0, .un] S) := rfl
def q0_is_row_value : VS.Env → Sto → Res D := (rCall C_is_guest_value (rCons (rBin ixD (rVar 0) (rC (.int 0))) (rCons (rVar 1) rNil)))
def q1_is_row_value : RS := (rSeq (rIfS (rOr (rNot (rB (rCall C_has_items (rCons (rVar 0) (rCons (rC (.int 2)) (rCons (rC (.int 2)) rNil)))))) (rOr (rNot (rB (rCall C_is_within (rCons (rBin ixD (rVar 0) (rC (.int 0))) (rCons (rC (.int 1)) (rCons (rC (.int 3)) rNil)))))) (rNot (rB (rCall C_has_items (rCons (rBin ixD (rVar 0) (rC (.int 1))) (rCons (rC (.int 1)) (rCons (rC (.int 2)) rNil)))))))) (rRet (rC (.bl false))) rNext) (rRet (rCl allD (rCons (rUp (rLc (rItems (rBin ixD (rVar 0) (rC (.int 1)))) [1] (gN 1) rYes q0_is_row_value)) rNil))))
theorem v_is_row_value (x0 : D) (S : Sto) : C_is_row_value [x0] S = resOf (q1_is_row_value [.val x0, .un] S) := rfl

def N_is_look_value : List Str := ["value"]
abbrev r_is_look_value : RS := (rRet (rAndV (rIsT "str" (rVar 0)) (rBin inD (rVar 0) (rC (.tup [.str "who", .str "left", .str "none"])))))
def C_is_look_value : List D → Sto → Res D := fun ds S => resOf (r_is_look_value (env0 (N_is_look_value).length ds) S)
theorem d_is_look_value (Tp : Top K mg) : HasFn P w K mg base T "is_look_value" 1 1 C_is_look_value := by
  obtain ⟨f, fd, G, hm⟩ := Tp.fn 6 rfl
  have nd : (N_is_look_value).Nodup := by decide +kernel
  refine fn_mk (N := N_is_look_value) (ps := ["value"]) G ⟨rfl, rfl, rfl, nd, rfl, by decide +kernel, by decide +kernel⟩ hm (G.binds (fun _ _ _ _ _ _ us hl => match us, hl with | [_], _ => rfl)) r_is_look_value (fun cdv A outer s H E F hF hcv hr tk => ?_) fun ds S _ _ => rfl
  have hu := hr.units
  have hu0 := hr.units0
  have hu1 := room65 hr
  exact (vs_one (vs_ret (ve_and (ve_isi (vx_of_vf (qv 0)) (Tp.fr 0 rfl) (Tp.fr 6 rfl) (by decide +kernel)) (ve_one (ve_cmp (vop_in hu1) mon_X mon_X anti_F (vx_of_vf (qv 0)) (vx_of_vf (ve_glob Tp.c_LOOKS)) (by rfl))))))
theorem u_is_look_value (x0 : D) (S : Sto) : C_is_look_value [x0] S = resOf ((rRet (rAndV (rIsT "str" (rVar 0)) (rBin inD (rVar 0) (rC (.tup [.str "who", .str "left", .str "none"]))))) [.val x0] S) := rfl
def q0_is_look_value : RS := (rRet (rAndV (rIsT "str" (rVar 0)) (rBin inD (rVar 0) (rC (.tup [.str "who", .str "left", .str "none"])))))
theorem v_is_look_value (x0 : D) (S : Sto) : C_is_look_value [x0] S = resOf (q0_is_look_value [.val x0] S) := rfl

def N_is_stand_value : List Str := ["row", "value", "mood", "guest"]
abbrev r_is_stand_value : RS := (rSeq (rIfS (rNot (rB (rCall C_has_items (rCons (rVar 1) (rCons (rCl lenD (rCons (rBin ixD (rVar 0) (rC (.int 1))) rNil)) (rCons (rCl lenD (rCons (rBin ixD (rVar 0) (rC (.int 1))) rNil)) rNil)))))) (rRet (rC (.bl false))) rNext) (rRet (rCl allD (rCons (rUp (rLc (rCl zipD (rCons (rVar 1) (rCons (rBin ixD (rVar 0) (rC (.int 1))) rNil))) [2, 3] (gT (gsCons (gN 2) (gsCons (gN 3) gsNil))) rYes (rCall C_is_within (rCons (rVar 2) (rCons (rC (.int 0)) (rCons (rBin subD (rCl lenD (rCons (rVar 3) rNil)) (rC (.int 1))) rNil)))))) rNil))))
def C_is_stand_value : List D → Sto → Res D := fun ds S => resOf (r_is_stand_value (env0 (N_is_stand_value).length ds) S)
theorem d_is_stand_value (Tp : Top K mg) : HasFn P w K mg base T "is_stand_value" 2 2 C_is_stand_value := by
  obtain ⟨f, fd, G, hm⟩ := Tp.fn 7 rfl
  have nd : (N_is_stand_value).Nodup := by decide +kernel
  refine fn_mk (N := N_is_stand_value) (ps := ["row", "value"]) G ⟨rfl, rfl, rfl, nd, rfl, by decide +kernel, by decide +kernel⟩ hm (G.binds (fun _ _ _ _ _ _ us hl => match us, hl with | [_, _], _ => rfl)) r_is_stand_value (fun cdv A outer s H E F hF hcv hr tk => ?_) fun ds S _ _ => rfl
  have hu := hr.units
  have hu0 := hr.units0
  have hu1 := room65 hr
  exact (vs_cons (vs_if (vt_not (vt_val (ve_call (d_has_items Tp) hr tk (lens_cons (lens_cons (lens_cons lens_nil))) (va_cons (qv 1) (va_cons (ve_callB cl_len anti_F (vax_cons (vx_of_vf (ve_ix (vx_of_vf (qv 0)) ve_int)) vax_nil) (Tp.fr 4 rfl) (by decide +kernel)) (va_cons (ve_callB cl_len anti_F (vax_cons (vx_of_vf (ve_ix (vx_of_vf (qv 0)) ve_int)) vax_nil) (Tp.fr 4 rfl) (by decide +kernel)) va_nil)))))) (vs_one (vs_ret ve_bl)) vs_nil) (vs_one (vs_ret (ve_callB (cl_all rfl) anti_F (vax_cons (vx_of_vo (ve_lc rfl nd (vie_zip (vax_cons (vx_of_vf (qv 1)) (vax_cons (vx_of_vf (ve_ix (vx_of_vf (qv 0)) ve_int)) vax_nil)) (Tp.fr 7 rfl)) (blkOk_by (own := [("mood", 2), ("guest", 3)]) (by kernel_rfl)) (fun _ _ _ _ _ => (vg_tup rfl (vgs_cons (qg 2 nd) (vgs_cons (qg 3 nd) vgs_nil)) (glen_cons (glen_cons glen_nil)))) (fun _ _ _ _ _ => vts_nil) (fun _ _ _ _ _ => (ve_call (d_is_within Tp) hr tk0 (lens_cons (lens_cons (lens_cons lens_nil))) (va_cons (qv 2) (va_cons ve_int (va_cons (ve_bin vop_sub mon_F mon_F anti_F (ve_callB cl_len anti_F (vax_cons (vx_of_vf (qv 3)) vax_nil) (Tp.fr 4 rfl) (by decide +kernel)) ve_int) va_nil))))) (by decide))) vax_nil) (Tp.fr 5 rfl) (by decide +kernel)))))
theorem u_is_stand_value (x0 x1 : D) (S : Sto) : C_is_stand_value [x0, x1] S = resOf ((rSeq (rIfS (rNot (rB (rCall C_has_items (rCons (rVar 1) (rCons (rCl lenD (rCons (rBin ixD (rVar 0) (rC (.int 1))) rNil)) (rCons (rCl lenD (rCons (rBin ixD (rVar 0) (rC (.int 1))) rNil)) rNil)))))) (rRet (rC (.bl false))) rNext) (rRet (rCl allD (rCons (rUp (rLc (rCl zipD (rCons (rVar 1) (rCons (rBin ixD (rVar 0) (rC (.int 1))) rNil))) [2, 3] (gT (gsCons (gN 2) (gsCons (gN 3) gsNil))) rYes (rCall C_is_within (rCons (rVar 2) (rCons (rC (.int 0)) (rCons (rBin subD (rCl lenD (rCons (rVar 3) rNil)) (rC (.int 1))) rNil)))))) rNil)))) [.val x0, .val x1, .un, .un] S) := rfl
def q0_is_stand_value : VS.Env → Sto → Res D := (rCall C_is_within (rCons (rVar 2) (rCons (rC (.int 0)) (rCons (rBin subD (rCl lenD (rCons (rVar 3) rNil)) (rC (.int 1))) rNil))))
def q1_is_stand_value : RS := (rSeq (rIfS (rNot (rB (rCall C_has_items (rCons (rVar 1) (rCons (rCl lenD (rCons (rBin ixD (rVar 0) (rC (.int 1))) rNil)) (rCons (rCl lenD (rCons (rBin ixD (rVar 0) (rC (.int 1))) rNil)) rNil)))))) (rRet (rC (.bl false))) rNext) (rRet (rCl allD (rCons (rUp (rLc (rCl zipD (rCons (rVar 1) (rCons (rBin ixD (rVar 0) (rC (.int 1))) rNil))) [2, 3] (gT (gsCons (gN 2) (gsCons (gN 3) gsNil))) rYes q0_is_stand_value)) rNil))))
theorem v_is_stand_value (x0 x1 : D) (S : Sto) : C_is_stand_value [x0, x1] S = resOf (q1_is_stand_value [.val x0, .val x1, .un, .un] S) := rfl

def N_is_lot_value : List Str := ["row", "value", "stand", "at"]
abbrev r_is_lot_value : RS := (rSeq (rIfS (rOr (rNot (rB (rCall C_has_items (rCons (rVar 1) (rCons (rC (.int 1)) (rCons (rC (.int 9)) rNil)))))) (rNot (rB (rCl allD (rCons (rUp (rLc (rItems (rVar 1)) [2] (gN 2) rYes (rCall C_is_stand_value (rCons (rVar 0) (rCons (rVar 2) rNil))))) rNil))))) (rRet (rC (.bl false))) rNext) (rRet (rCl allD (rCons (rUp (rLc (rCl rangeD (rCons (rBin subD (rCl lenD (rCons (rVar 1) rNil)) (rC (.int 1))) rNil)) [3] (gN 3) rYes (rBin ltQ (rBin ixD (rVar 1) (rVar 3)) (rBin ixD (rVar 1) (rBin addD (rVar 3) (rC (.int 1))))))) rNil))))
def C_is_lot_value : List D → Sto → Res D := fun ds S => resOf (r_is_lot_value (env0 (N_is_lot_value).length ds) S)
theorem d_is_lot_value (Tp : Top K mg) : HasFn P w K mg base T "is_lot_value" 3 2 C_is_lot_value := by
  obtain ⟨f, fd, G, hm⟩ := Tp.fn 8 rfl
  have nd : (N_is_lot_value).Nodup := by decide +kernel
  refine fn_mk (N := N_is_lot_value) (ps := ["row", "value"]) G ⟨rfl, rfl, rfl, nd, rfl, by decide +kernel, by decide +kernel⟩ hm (G.binds (fun _ _ _ _ _ _ us hl => match us, hl with | [_, _], _ => rfl)) r_is_lot_value (fun cdv A outer s H E F hF hcv hr tk => ?_) fun ds S _ _ => rfl
  have hu := hr.units
  have hu0 := hr.units0
  have hu1 := room65 hr
  exact (vs_cons (vs_if (vt_w (vw_or (vt_not (vt_val (ve_call ((d_has_items Tp).mono (by decide : 1 ≤ 2)) hr tk (lens_cons (lens_cons (lens_cons lens_nil))) (va_cons (qv 1) (va_cons ve_int (va_cons ve_int va_nil)))))) (vw_or1 (vt_not (vt_val (ve_callB (cl_all rfl) anti_F (vax_cons (vx_of_vo (ve_lc rfl nd (vie_seq (vx_of_vf (qv 1))) (blkOk_by (own := [("stand", 2)]) (by kernel_rfl)) (fun _ _ _ _ _ => (qg 2 nd)) (fun _ _ _ _ _ => vts_nil) (fun _ _ _ _ _ => (ve_call (d_is_stand_value Tp) hr tk0 (lens_cons (lens_cons lens_nil)) (va_cons (qv 0) (va_cons (qv 2) va_nil)))) (by decide))) vax_nil) (Tp.fr 5 rfl) (by decide +kernel))))))) (vs_one (vs_ret ve_bl)) vs_nil) (vs_one (vs_ret (ve_callB (cl_all rfl) anti_F (vax_cons (vx_of_vo (ve_lc rfl nd (vie_of_vi (vi_range (vax_cons (vx_of_vf (ve_bin vop_sub mon_F mon_F anti_F (ve_callB cl_len anti_F (vax_cons (vx_of_vf (qv 1)) vax_nil) (Tp.fr 4 rfl) (by decide +kernel)) ve_int)) vax_nil) (Tp.fr 8 rfl))) (blkOk_by (own := [("at", 3)]) (by kernel_rfl)) (fun _ _ _ _ _ => (qg 3 nd)) (fun _ _ _ _ _ => vts_nil) (fun _ _ _ _ _ => (ve_cmp (vop_ltQ hu0) mon_F mon_F anti_F (ve_ix (vx_of_vf (qv 1)) (qv 3)) (ve_ix (vx_of_vf (qv 1)) (ve_bin vop_add mon_F mon_F anti_F (qv 3) ve_int)) (nomark _))) (by decide))) vax_nil) (Tp.fr 5 rfl) (by decide +kernel)))))
theorem u_is_lot_value (x0 x1 : D) (S : Sto) : C_is_lot_value [x0, x1] S = resOf ((rSeq (rIfS (rOr (rNot (rB (rCall C_has_items (rCons (rVar 1) (rCons (rC (.int 1)) (rCons (rC (.int 9)) rNil)))))) (rNot (rB (rCl allD (rCons (rUp (rLc (rItems (rVar 1)) [2] (gN 2) rYes (rCall C_is_stand_value (rCons (rVar 0) (rCons (rVar 2) rNil))))) rNil))))) (rRet (rC (.bl false))) rNext) (rRet (rCl allD (rCons (rUp (rLc (rCl rangeD (rCons (rBin subD (rCl lenD (rCons (rVar 1) rNil)) (rC (.int 1))) rNil)) [3] (gN 3) rYes (rBin ltQ (rBin ixD (rVar 1) (rVar 3)) (rBin ixD (rVar 1) (rBin addD (rVar 3) (rC (.int 1))))))) rNil)))) [.val x0, .val x1, .un, .un] S) := rfl
def q0_is_lot_value : VS.Env → Sto → Res D := (rCall C_is_stand_value (rCons (rVar 0) (rCons (rVar 2) rNil)))
def q1_is_lot_value : VS.Env → Sto → Res D := (rBin ltQ (rBin ixD (rVar 1) (rVar 3)) (rBin ixD (rVar 1) (rBin addD (rVar 3) (rC (.int 1)))))
def q2_is_lot_value : RS := (rSeq (rIfS (rOr (rNot (rB (rCall C_has_items (rCons (rVar 1) (rCons (rC (.int 1)) (rCons (rC (.int 9)) rNil)))))) (rNot (rB (rCl allD (rCons (rUp (rLc (rItems (rVar 1)) [2] (gN 2) rYes q0_is_lot_value)) rNil))))) (rRet (rC (.bl false))) rNext) (rRet (rCl allD (rCons (rUp (rLc (rCl rangeD (rCons (rBin subD (rCl lenD (rCons (rVar 1) rNil)) (rC (.int 1))) rNil)) [3] (gN 3) rYes q1_is_lot_value)) rNil))))
theorem v_is_lot_value (x0 x1 : D) (S : Sto) : C_is_lot_value [x0, x1] S = resOf (q2_is_lot_value [.val x0, .val x1, .un, .un] S) := rfl

def N_need_row : List Str := ["value"]
abbrev r_need_row : RS := (rIfS (rNot (rB (rCall C_is_row_value (rCons (rVar 0) rNil)))) (rRaise "InvalidRow") rNext)
def C_need_row : List D → Sto → Res D := fun ds S => resOf (r_need_row (env0 (N_need_row).length ds) S)
theorem d_need_row (Tp : Top K mg) : HasFn P w K mg base T "need_row" 6 1 C_need_row := by
  obtain ⟨f, fd, G, hm⟩ := Tp.fn 9 rfl
  have nd : (N_need_row).Nodup := by decide +kernel
  refine fn_mk (N := N_need_row) (ps := ["value"]) G ⟨rfl, rfl, rfl, nd, rfl, by decide +kernel, by decide +kernel⟩ hm (G.binds (fun _ _ _ _ _ _ us hl => match us, hl with | [_], _ => rfl)) r_need_row (fun cdv A outer s H E F hF hcv hr tk => ?_) fun ds S _ _ => rfl
  have hu := hr.units
  have hu0 := hr.units0
  have hu1 := room65 hr
  exact (vs_one (vs_if (vt_not (vt_val (ve_call (d_is_row_value Tp) hr tk (lens_cons lens_nil) (va_cons (qv 0) va_nil)))) (vs_one (qraise (Tp.exc 0 rfl) rfl tk)) vs_nil))
theorem u_need_row (x0 : D) (S : Sto) : C_need_row [x0] S = resOf ((rIfS (rNot (rB (rCall C_is_row_value (rCons (rVar 0) rNil)))) (rRaise "InvalidRow") rNext) [.val x0] S) := rfl
def q0_need_row : RS := (rIfS (rNot (rB (rCall C_is_row_value (rCons (rVar 0) rNil)))) (rRaise "InvalidRow") rNext)
theorem v_need_row (x0 : D) (S : Sto) : C_need_row [x0] S = resOf (q0_need_row [.val x0] S) := rfl

def N_need_look : List Str := ["value"]
abbrev r_need_look : RS := (rIfS (rNot (rB (rCall C_is_look_value (rCons (rVar 0) rNil)))) (rRaise "InvalidLook") rNext)
def C_need_look : List D → Sto → Res D := fun ds S => resOf (r_need_look (env0 (N_need_look).length ds) S)
theorem d_need_look (Tp : Top K mg) : HasFn P w K mg base T "need_look" 2 1 C_need_look := by
  obtain ⟨f, fd, G, hm⟩ := Tp.fn 10 rfl
  have nd : (N_need_look).Nodup := by decide +kernel
  refine fn_mk (N := N_need_look) (ps := ["value"]) G ⟨rfl, rfl, rfl, nd, rfl, by decide +kernel, by decide +kernel⟩ hm (G.binds (fun _ _ _ _ _ _ us hl => match us, hl with | [_], _ => rfl)) r_need_look (fun cdv A outer s H E F hF hcv hr tk => ?_) fun ds S _ _ => rfl
  have hu := hr.units
  have hu0 := hr.units0
  have hu1 := room65 hr
  exact (vs_one (vs_if (vt_not (vt_val (ve_call (d_is_look_value Tp) hr tk (lens_cons lens_nil) (va_cons (qv 0) va_nil)))) (vs_one (qraise (Tp.exc 1 rfl) rfl tk)) vs_nil))
theorem u_need_look (x0 : D) (S : Sto) : C_need_look [x0] S = resOf ((rIfS (rNot (rB (rCall C_is_look_value (rCons (rVar 0) rNil)))) (rRaise "InvalidLook") rNext) [.val x0] S) := rfl
def q0_need_look : RS := (rIfS (rNot (rB (rCall C_is_look_value (rCons (rVar 0) rNil)))) (rRaise "InvalidLook") rNext)
theorem v_need_look (x0 : D) (S : Sto) : C_need_look [x0] S = resOf (q0_need_look [.val x0] S) := rfl

def N_need_lot : List Str := ["row", "value"]
abbrev r_need_lot : RS := (rIfS (rNot (rB (rCall C_is_lot_value (rCons (rVar 0) (rCons (rVar 1) rNil))))) (rRaise "InvalidLot") rNext)
def C_need_lot : List D → Sto → Res D := fun ds S => resOf (r_need_lot (env0 (N_need_lot).length ds) S)
theorem d_need_lot (Tp : Top K mg) : HasFn P w K mg base T "need_lot" 4 2 C_need_lot := by
  obtain ⟨f, fd, G, hm⟩ := Tp.fn 11 rfl
  have nd : (N_need_lot).Nodup := by decide +kernel
  refine fn_mk (N := N_need_lot) (ps := ["row", "value"]) G ⟨rfl, rfl, rfl, nd, rfl, by decide +kernel, by decide +kernel⟩ hm (G.binds (fun _ _ _ _ _ _ us hl => match us, hl with | [_, _], _ => rfl)) r_need_lot (fun cdv A outer s H E F hF hcv hr tk => ?_) fun ds S _ _ => rfl
  have hu := hr.units
  have hu0 := hr.units0
  have hu1 := room65 hr
  exact (vs_one (vs_if (vt_not (vt_val (ve_call (d_is_lot_value Tp) hr tk (lens_cons (lens_cons lens_nil)) (va_cons (qv 0) (va_cons (qv 1) va_nil))))) (vs_one (qraise (Tp.exc 2 rfl) rfl tk)) vs_nil))
theorem u_need_lot (x0 x1 : D) (S : Sto) : C_need_lot [x0, x1] S = resOf ((rIfS (rNot (rB (rCall C_is_lot_value (rCons (rVar 0) (rCons (rVar 1) rNil))))) (rRaise "InvalidLot") rNext) [.val x0, .val x1] S) := rfl
def q0_need_lot : RS := (rIfS (rNot (rB (rCall C_is_lot_value (rCons (rVar 0) (rCons (rVar 1) rNil))))) (rRaise "InvalidLot") rNext)
theorem v_need_lot (x0 x1 : D) (S : Sto) : C_need_lot [x0, x1] S = resOf (q0_need_lot [.val x0, .val x1] S) := rfl

def N_need_cook : List Str := ["row", "look", "lot"]
abbrev r_need_cook : RS := (rSeq (rDrop (rCall C_need_row (rCons (rVar 0) rNil))) (rSeq (rDrop (rCall C_need_look (rCons (rVar 1) rNil))) (rDrop (rCall C_need_lot (rCons (rVar 0) (rCons (rVar 2) rNil))))))
def C_need_cook : List D → Sto → Res D := fun ds S => resOf (r_need_cook (env0 (N_need_cook).length ds) S)
theorem d_need_cook (Tp : Top K mg) : HasFn P w K mg base T "need_cook" 7 3 C_need_cook := by
  obtain ⟨f, fd, G, hm⟩ := Tp.fn 12 rfl
  have nd : (N_need_cook).Nodup := by decide +kernel
  refine fn_mk (N := N_need_cook) (ps := ["row", "look", "lot"]) G ⟨rfl, rfl, rfl, nd, rfl, by decide +kernel, by decide +kernel⟩ hm (G.binds (fun _ _ _ _ _ _ us hl => match us, hl with | [_, _, _], _ => rfl)) r_need_cook (fun cdv A outer s H E F hF hcv hr tk => ?_) fun ds S _ _ => rfl
  have hu := hr.units
  have hu0 := hr.units0
  have hu1 := room65 hr
  exact (vs_cons (vs_expr (ve_call (d_need_row Tp) hr tk (lens_cons lens_nil) (va_cons (qv 0) va_nil))) (vs_cons (vs_expr (ve_call ((d_need_look Tp).mono (by decide : 2 ≤ 6)) hr tk (lens_cons lens_nil) (va_cons (qv 1) va_nil))) (vs_one (vs_expr (ve_call ((d_need_lot Tp).mono (by decide : 4 ≤ 6)) hr tk (lens_cons (lens_cons lens_nil)) (va_cons (qv 0) (va_cons (qv 2) va_nil)))))))
theorem u_need_cook (x0 x1 x2 : D) (S : Sto) : C_need_cook [x0, x1, x2] S = resOf ((rSeq (rDrop (rCall C_need_row (rCons (rVar 0) rNil))) (rSeq (rDrop (rCall C_need_look (rCons (rVar 1) rNil))) (rDrop (rCall C_need_lot (rCons (rVar 0) (rCons (rVar 2) rNil)))))) [.val x0, .val x1, .val x2] S) := rfl
def q0_need_cook : RS := (rSeq (rDrop (rCall C_need_look (rCons (rVar 1) rNil))) (rDrop (rCall C_need_lot (rCons (rVar 0) (rCons (rVar 2) rNil)))))
def q1_need_cook : RS := (rSeq (rDrop (rCall C_need_row (rCons (rVar 0) rNil))) q0_need_cook)
theorem v_need_cook (x0 x1 x2 : D) (S : Sto) : C_need_cook [x0, x1, x2] S = resOf (q1_need_cook [.val x0, .val x1, .val x2] S) := rfl

def N_mood_word : List Str := ["mood", "takes", "then"]
abbrev r_mood_word : RS := (rRet (rM1 joinD (rC (.str ",")) (rUp (rLc (rItems (rVar 0)) [1, 2] (gT (gsCons (gN 1) (gsCons (gN 2) gsNil))) rYes (rJ [(rUn fmtD (rBin ixD (rC (.tup [.str "pass", .str "take"])) (rCl intQ (rCons (rVar 1) rNil)))), (rUn fmtD (rVar 2))] Str.empty)))))
def C_mood_word : List D → Sto → Res D := fun ds S => resOf (r_mood_word (env0 (N_mood_word).length ds) S)
theorem d_mood_word (Tp : Top K mg) : HasFn P w K mg base T "mood_word" 1 1 C_mood_word := by
  obtain ⟨f, fd, G, hm⟩ := Tp.fn 13 rfl
  have nd : (N_mood_word).Nodup := by decide +kernel
  refine fn_mk (N := N_mood_word) (ps := ["mood"]) G ⟨rfl, rfl, rfl, nd, rfl, by decide +kernel, by decide +kernel⟩ hm (G.binds (fun _ _ _ _ _ _ us hl => match us, hl with | [_], _ => rfl)) r_mood_word (fun cdv A outer s H E F hF hcv hr tk => ?_) fun ds S _ _ => rfl
  have hu := hr.units
  have hu0 := hr.units0
  have hu1 := room65 hr
  exact (vs_one (vs_ret (ve_join ve_str (vx_of_vo (ve_lc rfl nd (vie_seq (vx_of_vf (qv 0))) (blkOk_by (own := [("takes", 1), ("then", 2)]) (by kernel_rfl)) (fun _ _ _ _ _ => (vg_tup rfl (vgs_cons (qg 1 nd) (vgs_cons (qg 2 nd) vgs_nil)) (glen_cons (glen_cons glen_nil)))) (fun _ _ _ _ _ => vts_nil) (fun _ _ _ _ _ => (ve_joined (.cons (ve_fmt (ve_ix (vx_of_vf (ve_glob Tp.c_WORDS)) (ve_callTy cl_intQ anti_F (vax_cons (vx_of_vf (qv 1)) vax_nil) (Tp.fr 1 rfl) (by decide +kernel)))) (.cons (ve_fmt (qv 2)) .nil)))) (by decide))))))
theorem u_mood_word (x0 : D) (S : Sto) : C_mood_word [x0] S = resOf ((rRet (rM1 joinD (rC (.str ",")) (rUp (rLc (rItems (rVar 0)) [1, 2] (gT (gsCons (gN 1) (gsCons (gN 2) gsNil))) rYes (rJ [(rUn fmtD (rBin ixD (rC (.tup [.str "pass", .str "take"])) (rCl intQ (rCons (rVar 1) rNil)))), (rUn fmtD (rVar 2))] Str.empty))))) [.val x0, .un, .un] S) := rfl
def q0_mood_word : VS.Env → Sto → Res D := (rJ [(rUn fmtD (rBin ixD (rC (.tup [.str "pass", .str "take"])) (rCl intQ (rCons (rVar 1) rNil)))), (rUn fmtD (rVar 2))] Str.empty)
def q1_mood_word : RS := (rRet (rM1 joinD (rC (.str ",")) (rUp (rLc (rItems (rVar 0)) [1, 2] (gT (gsCons (gN 1) (gsCons (gN 2) gsNil))) rYes q0_mood_word))))
theorem v_mood_word (x0 : D) (S : Sto) : C_mood_word [x0] S = resOf (q1_mood_word [.val x0, .un, .un] S) := rfl

def N_lines_of : List Str := ["row", "look", "lot", "found", "guest", "mood", "stand"]
abbrev r_lines_of : RS := (rSeq (rSetF 3 (rFz (chkLen (rCons (rJ [(rC (.str "kinds ")), (rUn fmtD (rBin ixD (rVar 0) (rC (.int 0))))] Str.empty) rNil)))) (rSeq (rSetF 3 (rBin addQ (rVar 3) (rUp (rLc (rItems (rBin ixD (rVar 0) (rC (.int 1)))) [4] (gN 4) rYes (rM1 joinD (rC (.str " ")) (rUp (rBin catL (rUp (chkLen (rCons (rC (.str "guest")) rNil))) (rUp (rLc (rItems (rVar 4)) [5] (gN 5) rYes (rCall C_mood_word (rCons (rVar 5) rNil))))))))))) (rRet (rBin addQ (rUp (rBin catL (rVar 3) (rUp (chkLen (rCons (rJ [(rC (.str "look ")), (rUn fmtD (rVar 1))] Str.empty) rNil))))) (rUp (rLc (rItems (rVar 2)) [6] (gN 6) rYes (rM1 joinD (rC (.str " ")) (rUp (rBin catL (rUp (chkLen (rCons (rC (.str "stand")) rNil))) (rUp (rLc (rItems (rVar 6)) [5] (gN 5) rYes (rCl strD (rCons (rVar 5) rNil)))))))))))))
def C_lines_of : List D → Sto → Res D := fun ds S => resOf (r_lines_of (env0 (N_lines_of).length ds) S)
theorem d_lines_of (Tp : Top K mg) : HasFn P w K mg base T "lines_of" 2 3 C_lines_of := by
  obtain ⟨f, fd, G, hm⟩ := Tp.fn 14 rfl
  have nd : (N_lines_of).Nodup := by decide +kernel
  refine fn_mk (N := N_lines_of) (ps := ["row", "look", "lot"]) G ⟨rfl, rfl, rfl, nd, rfl, by decide +kernel, by decide +kernel⟩ hm (G.binds (fun _ _ _ _ _ _ us hl => match us, hl with | [_, _, _], _ => rfl)) r_lines_of (fun cdv A outer s H E F hF hcv hr tk => ?_) fun ds S _ _ => rfl
  have hu := hr.units
  have hu0 := hr.units0
  have hu1 := room65 hr
  exact (vs_cons (qsetF 3 nd (vf_of_vo (ve_lst (va_cons (ve_joined (.cons ve_str (.cons (ve_fmt (ve_ix (vx_of_vf (qv 0)) ve_int)) .nil))) va_nil)))) (vs_cons (qsetF 3 nd (vf_of_vq (ve_binQ vop_addQ mon_X mon_X anti_Q (vx_of_vf (qv 3)) (vx_of_vo (ve_lc rfl nd (vie_seq (vx_of_vf (ve_ix (vx_of_vf (qv 0)) ve_int))) (blkOk_by (own := [("guest", 4)]) (by kernel_rfl)) (fun _ _ _ _ _ => (qg 4 nd)) (fun _ _ _ _ _ => vts_nil) (fun _ _ _ _ _ => (ve_join ve_str (vx_of_vo (ve_binQ vop_catL mon_X mon_X anti_O (vx_of_vo (ve_lst (va_cons ve_str va_nil))) (vx_of_vo (ve_lc rfl nd (vie_seq (vx_of_vf (qv 4))) (blkOk_by (own := [("mood", 5)]) (by kernel_rfl)) (fun _ _ _ _ _ => (qg 5 nd)) (fun _ _ _ _ _ => vts_nil) (fun _ _ _ _ _ => (ve_call (d_mood_word Tp) hr tk0 (lens_cons lens_nil) (va_cons (qv 5) va_nil))) (by decide))))))) (by decide)))))) (vs_one (vs_ret (vf_of_vq (ve_binQ vop_addQ mon_X mon_X anti_Q (vx_of_vo (ve_binQ vop_catL mon_X mon_X anti_O (vx_of_vf (qv 3)) (vx_of_vo (ve_lst (va_cons (ve_joined (.cons ve_str (.cons (ve_fmt (qv 1)) .nil))) va_nil))))) (vx_of_vo (ve_lc rfl nd (vie_seq (vx_of_vf (qv 2))) (blkOk_by (own := [("stand", 6)]) (by kernel_rfl)) (fun _ _ _ _ _ => (qg 6 nd)) (fun _ _ _ _ _ => vts_nil) (fun _ _ _ _ _ => (ve_join ve_str (vx_of_vo (ve_binQ vop_catL mon_X mon_X anti_O (vx_of_vo (ve_lst (va_cons ve_str va_nil))) (vx_of_vo (ve_lc rfl nd (vie_seq (vx_of_vf (qv 6))) (blkOk_by (own := [("mood", 5)]) (by kernel_rfl)) (fun _ _ _ _ _ => (qg 5 nd)) (fun _ _ _ _ _ => vts_nil) (fun _ _ _ _ _ => (ve_callTy cl_str anti_F (vax_cons (vx_of_vf (qv 5)) vax_nil) (Tp.fr 6 rfl) (by decide +kernel))) (by decide))))))) (by decide)))))))))
theorem u_lines_of (x0 x1 x2 : D) (S : Sto) : C_lines_of [x0, x1, x2] S = resOf ((rSeq (rSetF 3 (rFz (chkLen (rCons (rJ [(rC (.str "kinds ")), (rUn fmtD (rBin ixD (rVar 0) (rC (.int 0))))] Str.empty) rNil)))) (rSeq (rSetF 3 (rBin addQ (rVar 3) (rUp (rLc (rItems (rBin ixD (rVar 0) (rC (.int 1)))) [4] (gN 4) rYes (rM1 joinD (rC (.str " ")) (rUp (rBin catL (rUp (chkLen (rCons (rC (.str "guest")) rNil))) (rUp (rLc (rItems (rVar 4)) [5] (gN 5) rYes (rCall C_mood_word (rCons (rVar 5) rNil))))))))))) (rRet (rBin addQ (rUp (rBin catL (rVar 3) (rUp (chkLen (rCons (rJ [(rC (.str "look ")), (rUn fmtD (rVar 1))] Str.empty) rNil))))) (rUp (rLc (rItems (rVar 2)) [6] (gN 6) rYes (rM1 joinD (rC (.str " ")) (rUp (rBin catL (rUp (chkLen (rCons (rC (.str "stand")) rNil))) (rUp (rLc (rItems (rVar 6)) [5] (gN 5) rYes (rCl strD (rCons (rVar 5) rNil))))))))))))) [.val x0, .val x1, .val x2, .un, .un, .un, .un] S) := rfl
def q0_lines_of : VS.Env → Sto → Res D := (rM1 joinD (rC (.str " ")) (rUp (rBin catL (rUp (chkLen (rCons (rC (.str "guest")) rNil))) (rUp (rLc (rItems (rVar 4)) [5] (gN 5) rYes (rCall C_mood_word (rCons (rVar 5) rNil)))))))
def q1_lines_of : VS.Env → Sto → Res D := (rM1 joinD (rC (.str " ")) (rUp (rBin catL (rUp (chkLen (rCons (rC (.str "stand")) rNil))) (rUp (rLc (rItems (rVar 6)) [5] (gN 5) rYes (rCl strD (rCons (rVar 5) rNil)))))))
def q2_lines_of : RS := (rSeq (rSetF 3 (rBin addQ (rVar 3) (rUp (rLc (rItems (rBin ixD (rVar 0) (rC (.int 1)))) [4] (gN 4) rYes q0_lines_of)))) (rRet (rBin addQ (rUp (rBin catL (rVar 3) (rUp (chkLen (rCons (rJ [(rC (.str "look ")), (rUn fmtD (rVar 1))] Str.empty) rNil))))) (rUp (rLc (rItems (rVar 2)) [6] (gN 6) rYes q1_lines_of)))))
def q3_lines_of : RS := (rSeq (rSetF 3 (rFz (chkLen (rCons (rJ [(rC (.str "kinds ")), (rUn fmtD (rBin ixD (rVar 0) (rC (.int 0))))] Str.empty) rNil)))) q2_lines_of)
theorem v_lines_of (x0 x1 x2 : D) (S : Sto) : C_lines_of [x0, x1, x2] S = resOf (q3_lines_of [.val x0, .val x1, .val x2, .un, .un, .un, .un] S) := rfl

def N_habit_in : List Str := ["word"]
abbrev r_habit_in : RS := (rSeq (rIfS (rOr (rB (rBin notInD (rSl sliceQ (rVar 0) rNoPt (rPt (rC (.int 4)))) (rC (.tup [.str "pass", .str "take"])))) (rB (rBin notInD (rSl sliceQ (rVar 0) (rPt (rC (.int 4))) rNoPt) (rC (.tup [.str "0", .str "1", .str "2"]))))) (rRet (rC .non)) rNext) (rRet (rTup (chkLen (rCons (rBin eqD (rSl sliceQ (rVar 0) rNoPt (rPt (rC (.int 4)))) (rC (.str "take"))) (rCons (rCl intQ (rCons (rSl sliceQ (rVar 0) (rPt (rC (.int 4))) rNoPt) rNil)) rNil))))))
def C_habit_in : List D → Sto → Res D := fun ds S => resOf (r_habit_in (env0 (N_habit_in).length ds) S)
theorem d_habit_in (Tp : Top K mg) : HasFn P w K mg base T "habit_in" 1 1 C_habit_in := by
  obtain ⟨f, fd, G, hm⟩ := Tp.fn 15 rfl
  have nd : (N_habit_in).Nodup := by decide +kernel
  refine fn_mk (N := N_habit_in) (ps := ["word"]) G ⟨rfl, rfl, rfl, nd, rfl, by decide +kernel, by decide +kernel⟩ hm (G.binds (fun _ _ _ _ _ _ us hl => match us, hl with | [_], _ => rfl)) r_habit_in (fun cdv A outer s H E F hF hcv hr tk => ?_) fun ds S _ _ => rfl
  have hu := hr.units
  have hu0 := hr.units0
  have hu1 := room65 hr
  exact (vs_cons (vs_if (vt_w (vw_or (vt_cmp (vop_notIn hu1) mon_X mon_X (vx_of_vf (vf_of_vq (ve_sliceQ (vx_of_vf (qv 0)) vp_none (vp_some ve_int)))) (vx_of_vf (ve_glob Tp.c_WORDS)) (by rfl)) (vw_or1 (vt_cmp (vop_notIn hu1) mon_X mon_X (vx_of_vf (vf_of_vq (ve_sliceQ (vx_of_vf (qv 0)) (vp_some ve_int) vp_none))) (vx_of_vf (ve_glob Tp.c_MOODS)) (by rfl))))) (vs_one (vs_ret ve_non)) vs_nil) (vs_one (vs_ret (ve_tup (va_cons (ve_cmp (vop_eq hu) mon_X mon_X anti_F (vx_of_vf (vf_of_vq (ve_sliceQ (vx_of_vf (qv 0)) vp_none (vp_some ve_int)))) (vx_of_vf ve_str) (nomark _)) (va_cons (ve_callTy cl_intQ anti_F (vax_cons (vx_of_vf (vf_of_vq (ve_sliceQ (vx_of_vf (qv 0)) (vp_some ve_int) vp_none))) vax_nil) (Tp.fr 1 rfl) (by decide +kernel)) va_nil))))))
theorem u_habit_in (x0 : D) (S : Sto) : C_habit_in [x0] S = resOf ((rSeq (rIfS (rOr (rB (rBin notInD (rSl sliceQ (rVar 0) rNoPt (rPt (rC (.int 4)))) (rC (.tup [.str "pass", .str "take"])))) (rB (rBin notInD (rSl sliceQ (rVar 0) (rPt (rC (.int 4))) rNoPt) (rC (.tup [.str "0", .str "1", .str "2"]))))) (rRet (rC .non)) rNext) (rRet (rTup (chkLen (rCons (rBin eqD (rSl sliceQ (rVar 0) rNoPt (rPt (rC (.int 4)))) (rC (.str "take"))) (rCons (rCl intQ (rCons (rSl sliceQ (rVar 0) (rPt (rC (.int 4))) rNoPt) rNil)) rNil)))))) [.val x0] S) := rfl
def q0_habit_in : RS := (rSeq (rIfS (rOr (rB (rBin notInD (rSl sliceQ (rVar 0) rNoPt (rPt (rC (.int 4)))) (rC (.tup [.str "pass", .str "take"])))) (rB (rBin notInD (rSl sliceQ (rVar 0) (rPt (rC (.int 4))) rNoPt) (rC (.tup [.str "0", .str "1", .str "2"]))))) (rRet (rC .non)) rNext) (rRet (rTup (chkLen (rCons (rBin eqD (rSl sliceQ (rVar 0) rNoPt (rPt (rC (.int 4)))) (rC (.str "take"))) (rCons (rCl intQ (rCons (rSl sliceQ (rVar 0) (rPt (rC (.int 4))) rNoPt) rNil)) rNil))))))
theorem v_habit_in (x0 : D) (S : Sto) : C_habit_in [x0] S = resOf (q0_habit_in [.val x0] S) := rfl

def N_guest_in : List Str := ["words", "moods", "text", "word"]
abbrev r_guest_in : RS := (rSeq (rFzS 1 (rSetO 1 (rLc (rItems (rVar 0)) [2] (gN 2) rYes (rCl tupD (rCons (rUp (rLc (rItems (rUp (rM1 splitD (rVar 2) (rC (.str ","))))) [3] (gN 3) rYes (rCall C_habit_in (rCons (rVar 3) rNil)))) rNil))))) (rSeq (rIfS (rOr (rB (rBin eqD (rVar 1) (rUp (chkLen rNil)))) (rOr (rNot (rB (rCall C_is_guest_value (rCons (rCl lenD (rCons (rBin ixD (rVar 1) (rC (.int 0))) rNil)) (rCons (rCl tupD (rCons (rVar 1) rNil)) rNil))))) (rB (rBin gtI (rCl lenD (rCons (rBin ixD (rVar 1) (rC (.int 0))) rNil)) (rC (.int 3)))))) (rRet (rC .non)) rNext) (rRet (rCl tupD (rCons (rVar 1) rNil)))))
def C_guest_in : List D → Sto → Res D := fun ds S => resOf (r_guest_in (env0 (N_guest_in).length ds) S)
theorem d_guest_in (Tp : Top K mg) : HasFn P w K mg base T "guest_in" 5 1 C_guest_in := by
  obtain ⟨f, fd, G, hm⟩ := Tp.fn 16 rfl
  have nd : (N_guest_in).Nodup := by decide +kernel
  refine fn_mk (N := N_guest_in) (ps := ["words"]) G ⟨rfl, rfl, rfl, nd, rfl, by decide +kernel, by decide +kernel⟩ hm (G.binds (fun _ _ _ _ _ _ us hl => match us, hl with | [_], _ => rfl)) r_guest_in (fun cdv A outer s H E F hF hcv hr tk => ?_) fun ds S _ _ => rfl
  have hu := hr.units
  have hu0 := hr.units0
  have hu1 := room65 hr
  exact (vs_cons (vs_fz 1 (vs_setLcF (i := 1) rfl nd rfl rfl (sw_true rfl rfl rfl (by decide +kernel)) (vie_seq (vx_of_vf (qv 0))) (blkOk_by (own := [("text", 2)]) (by kernel_rfl)) (fun _ _ _ _ _ => (qg 2 nd)) (fun _ _ _ _ _ => vts_nil) (fun _ _ _ _ _ => (ve_callTy cl_tuple anti_F (vax_cons (vx_of_vo (ve_lc rfl nd (vie_seq (vx_of_vo (ve_split (qv 2) ve_str))) (blkOk_by (own := [("word", 3)]) (by kernel_rfl)) (fun _ _ _ _ _ => (qg 3 nd)) (fun _ _ _ _ _ => vts_nil) (fun _ _ _ _ _ => (ve_call ((d_habit_in Tp).mono (by decide : 1 ≤ 4)) hr tk0 (lens_cons lens_nil) (va_cons (qv 3) va_nil))) (by decide))) vax_nil) (Tp.fr 3 rfl) (by decide +kernel))) (by decide))) (vs_cons (vs_if (vt_w (vw_or (vt_cmp (vop_eq hu) mon_X mon_X (vx_of_vf (qv 1)) (vx_of_vo (ve_lst va_nil)) (nomark _)) (vw_or (vt_not (vt_val (ve_call (d_is_guest_value Tp) hr tk (lens_cons (lens_cons lens_nil)) (va_cons (ve_callB cl_len anti_F (vax_cons (vx_of_vf (ve_ix (vx_of_vf (qv 1)) ve_int)) vax_nil) (Tp.fr 4 rfl) (by decide +kernel)) (va_cons (ve_callTy cl_tuple anti_F (vax_cons (vx_of_vf (qv 1)) vax_nil) (Tp.fr 3 rfl) (by decide +kernel)) va_nil))))) (vw_or1 (vt_cmp vop_gt mon_F mon_F (ve_callB cl_len anti_F (vax_cons (vx_of_vf (ve_ix (vx_of_vf (qv 1)) ve_int)) vax_nil) (Tp.fr 4 rfl) (by decide +kernel)) ve_int (nomark _)))))) (vs_one (vs_ret ve_non)) vs_nil) (vs_one (vs_ret (ve_callTy cl_tuple anti_F (vax_cons (vx_of_vf (qv 1)) vax_nil) (Tp.fr 3 rfl) (by decide +kernel))))))
theorem u_guest_in (x0 : D) (S : Sto) : C_guest_in [x0] S = resOf ((rSeq (rFzS 1 (rSetO 1 (rLc (rItems (rVar 0)) [2] (gN 2) rYes (rCl tupD (rCons (rUp (rLc (rItems (rUp (rM1 splitD (rVar 2) (rC (.str ","))))) [3] (gN 3) rYes (rCall C_habit_in (rCons (rVar 3) rNil)))) rNil))))) (rSeq (rIfS (rOr (rB (rBin eqD (rVar 1) (rUp (chkLen rNil)))) (rOr (rNot (rB (rCall C_is_guest_value (rCons (rCl lenD (rCons (rBin ixD (rVar 1) (rC (.int 0))) rNil)) (rCons (rCl tupD (rCons (rVar 1) rNil)) rNil))))) (rB (rBin gtI (rCl lenD (rCons (rBin ixD (rVar 1) (rC (.int 0))) rNil)) (rC (.int 3)))))) (rRet (rC .non)) rNext) (rRet (rCl tupD (rCons (rVar 1) rNil))))) [.val x0, .un, .un, .un] S) := rfl
def q0_guest_in : VS.Env → Sto → Res D := (rCl tupD (rCons (rUp (rLc (rItems (rUp (rM1 splitD (rVar 2) (rC (.str ","))))) [3] (gN 3) rYes (rCall C_habit_in (rCons (rVar 3) rNil)))) rNil))
def q1_guest_in : RS := (rSeq (rIfS (rOr (rB (rBin eqD (rVar 1) (rUp (chkLen rNil)))) (rOr (rNot (rB (rCall C_is_guest_value (rCons (rCl lenD (rCons (rBin ixD (rVar 1) (rC (.int 0))) rNil)) (rCons (rCl tupD (rCons (rVar 1) rNil)) rNil))))) (rB (rBin gtI (rCl lenD (rCons (rBin ixD (rVar 1) (rC (.int 0))) rNil)) (rC (.int 3)))))) (rRet (rC .non)) rNext) (rRet (rCl tupD (rCons (rVar 1) rNil))))
def q2_guest_in : RS := (rSeq (rFzS 1 (rSetO 1 (rLc (rItems (rVar 0)) [2] (gN 2) rYes q0_guest_in))) q1_guest_in)
theorem v_guest_in (x0 : D) (S : Sto) : C_guest_in [x0] S = resOf (q2_guest_in [.val x0, .un, .un, .un] S) := rfl

def N_piece_of : List Str := ["text", "words", "good", "guest", "word"]
abbrev r_piece_of : RS := (rSeq (rSetF 1 (rFz (rM1 splitD (rVar 0) (rC (.str " "))))) (rSeq (rIfS (rB (rBin eqD (rBin ixD (rVar 1) (rC (.int 0))) (rC (.str "kinds")))) (rRet (rIf (rAnd (rB (rBin eqD (rCl lenD (rCons (rVar 1) rNil)) (rC (.int 2)))) (rB (rBin inD (rBin ixD (rVar 1) (rC (.int 1))) (rTup (chkLen (rCons (rC (.str "1")) (rCons (rC (.str "2")) (rCons (rC (.str "3")) rNil)))))))) (rTup (chkLen (rCons (rC (.str "kinds")) (rCons (rCl intQ (rCons (rBin ixD (rVar 1) (rC (.int 1))) rNil)) rNil)))) (rC .non))) rNext) (rSeq (rIfS (rB (rBin eqD (rBin ixD (rVar 1) (rC (.int 0))) (rC (.str "look")))) (rRet (rIf (rAnd (rB (rBin eqD (rCl lenD (rCons (rVar 1) rNil)) (rC (.int 2)))) (rB (rBin inD (rBin ixD (rVar 1) (rC (.int 1))) (rC (.tup [.str "who", .str "left", .str "none"]))))) (rTup (chkLen (rCons (rC (.str "look")) (rCons (rBin ixD (rVar 1) (rC (.int 1))) rNil)))) (rC .non))) rNext) (rSeq (rIfS (rB (rBin eqD (rBin ixD (rVar 1) (rC (.int 0))) (rC (.str "stand")))) (rSeq (rSetF 2 (rAndV (rChain leI leI (rC (.int 2)) (rCl lenD (rCons (rVar 1) rNil)) (rC (.int 3))) (rCl allD (rCons (rUp (rLc (rItems (rSl sliceQ (rVar 1) (rPt (rC (.int 1))) rNoPt)) [4] (gN 4) rYes (rBin inD (rVar 4) (rC (.tup [.str "0", .str "1", .str "2"]))))) rNil)))) (rRet (rIf (rB (rVar 2)) (rTup (chkLen (rCons (rC (.str "stand")) (rCons (rCl tupD (rCons (rUp (rLc (rItems (rSl sliceQ (rVar 1) (rPt (rC (.int 1))) rNoPt)) [4] (gN 4) rYes (rCl intQ (rCons (rVar 4) rNil)))) rNil)) rNil)))) (rC .non)))) rNext) (rSeq (rSetF 3 (rIf (rB (rBin eqD (rBin ixD (rVar 1) (rC (.int 0))) (rC (.str "guest")))) (rCall C_guest_in (rCons (rSl sliceQ (rVar 1) (rPt (rC (.int 1))) rNoPt) rNil)) (rC .non))) (rRet (rIf (rB (rBin notND (rVar 3) (rC .non))) (rTup (chkLen (rCons (rC (.str "guest")) (rCons (rVar 3) rNil)))) (rC .non))))))))
def C_piece_of : List D → Sto → Res D := fun ds S => resOf (r_piece_of (env0 (N_piece_of).length ds) S)
theorem d_piece_of (Tp : Top K mg) : HasFn P w K mg base T "piece_of" 6 1 C_piece_of := by
  obtain ⟨f, fd, G, hm⟩ := Tp.fn 17 rfl
  have nd : (N_piece_of).Nodup := by decide +kernel
  refine fn_mk (N := N_piece_of) (ps := ["text"]) G ⟨rfl, rfl, rfl, nd, rfl, by decide +kernel, by decide +kernel⟩ hm (G.binds (fun _ _ _ _ _ _ us hl => match us, hl with | [_], _ => rfl)) r_piece_of (fun cdv A outer s H E F hF hcv hr tk => ?_) fun ds S _ _ => rfl
  have hu := hr.units
  have hu0 := hr.units0
  have hu1 := room65 hr
  exact (vs_cons (qsetF 1 nd (vf_of_vo (ve_split (qv 0) ve_str))) (vs_cons (vs_if (vt_cmp (vop_eq hu) mon_X mon_X (vx_of_vf (ve_ix (vx_of_vf (qv 1)) ve_int)) (vx_of_vf ve_str) (nomark _)) (vs_one (vs_ret (ve_if anti_F (vt_w (vw_and (vt_cmp (vop_eq hu) mon_X mon_X (vx_of_vf (ve_callB cl_len anti_F (vax_cons (vx_of_vf (qv 1)) vax_nil) (Tp.fr 4 rfl) (by decide +kernel))) (vx_of_vf ve_int) (nomark _)) (vw_and1 (vt_cmp (vop_in hu1) mon_X mon_X (vx_of_vf (ve_ix (vx_of_vf (qv 1)) ve_int)) (vx_of_vf (ve_tup (va_cons ve_str (va_cons ve_str (va_cons ve_str va_nil))))) (by rfl))))) (ve_tup (va_cons ve_str (va_cons (ve_callTy cl_intQ anti_F (vax_cons (vx_of_vf (ve_ix (vx_of_vf (qv 1)) ve_int)) vax_nil) (Tp.fr 1 rfl) (by decide +kernel)) va_nil))) ve_non))) vs_nil) (vs_cons (vs_if (vt_cmp (vop_eq hu) mon_X mon_X (vx_of_vf (ve_ix (vx_of_vf (qv 1)) ve_int)) (vx_of_vf ve_str) (nomark _)) (vs_one (vs_ret (ve_if anti_F (vt_w (vw_and (vt_cmp (vop_eq hu) mon_X mon_X (vx_of_vf (ve_callB cl_len anti_F (vax_cons (vx_of_vf (qv 1)) vax_nil) (Tp.fr 4 rfl) (by decide +kernel))) (vx_of_vf ve_int) (nomark _)) (vw_and1 (vt_cmp (vop_in hu1) mon_X mon_X (vx_of_vf (ve_ix (vx_of_vf (qv 1)) ve_int)) (vx_of_vf (ve_glob Tp.c_LOOKS)) (by rfl))))) (ve_tup (va_cons ve_str (va_cons (ve_ix (vx_of_vf (qv 1)) ve_int) va_nil))) ve_non))) vs_nil) (vs_cons (vs_if (vt_cmp (vop_eq hu) mon_X mon_X (vx_of_vf (ve_ix (vx_of_vf (qv 1)) ve_int)) (vx_of_vf ve_str) (nomark _)) (vs_cons (qsetF 2 nd (ve_and (ve_chain vop_le vop_le ve_int (ve_callB cl_len anti_F (vax_cons (vx_of_vf (qv 1)) vax_nil) (Tp.fr 4 rfl) (by decide +kernel)) ve_int) (ve_one (ve_callB (cl_all rfl) anti_F (vax_cons (vx_of_vo (ve_lc rfl nd (vie_seq (vx_of_vf (vf_of_vq (ve_sliceQ (vx_of_vf (qv 1)) (vp_some ve_int) vp_none)))) (blkOk_by (own := [("word", 4)]) (by kernel_rfl)) (fun _ _ _ _ _ => (qg 4 nd)) (fun _ _ _ _ _ => vts_nil) (fun _ _ _ _ _ => (ve_cmp (vop_in hu1) mon_X mon_X anti_F (vx_of_vf (qv 4)) (vx_of_vf (ve_glob Tp.c_MOODS)) (by rfl))) (by decide))) vax_nil) (Tp.fr 5 rfl) (by decide +kernel))))) (vs_one (vs_ret (ve_if anti_F (vt_val (qv 2)) (ve_tup (va_cons ve_str (va_cons (ve_callTy cl_tuple anti_F (vax_cons (vx_of_vo (ve_lc rfl nd (vie_seq (vx_of_vf (vf_of_vq (ve_sliceQ (vx_of_vf (qv 1)) (vp_some ve_int) vp_none)))) (blkOk_by (own := [("word", 4)]) (by kernel_rfl)) (fun _ _ _ _ _ => (qg 4 nd)) (fun _ _ _ _ _ => vts_nil) (fun _ _ _ _ _ => (ve_callTy cl_intQ anti_F (vax_cons (vx_of_vf (qv 4)) vax_nil) (Tp.fr 1 rfl) (by decide +kernel))) (by decide))) vax_nil) (Tp.fr 3 rfl) (by decide +kernel)) va_nil))) ve_non)))) vs_nil) (vs_cons (qsetF 3 nd (ve_if anti_F (vt_cmp (vop_eq hu) mon_X mon_X (vx_of_vf (ve_ix (vx_of_vf (qv 1)) ve_int)) (vx_of_vf ve_str) (nomark _)) (ve_call (d_guest_in Tp) hr tk (lens_cons lens_nil) (va_cons (vf_of_vq (ve_sliceQ (vx_of_vf (qv 1)) (vp_some ve_int) vp_none)) va_nil)) ve_non)) (vs_one (vs_ret (ve_if anti_F (vt_cmp vop_notN mon_X mon_F (vx_of_vf (qv 3)) ve_non (nomark _)) (ve_tup (va_cons ve_str (va_cons (qv 3) va_nil))) ve_non))))))))
theorem u_piece_of (x0 : D) (S : Sto) : C_piece_of [x0] S = resOf ((rSeq (rSetF 1 (rFz (rM1 splitD (rVar 0) (rC (.str " "))))) (rSeq (rIfS (rB (rBin eqD (rBin ixD (rVar 1) (rC (.int 0))) (rC (.str "kinds")))) (rRet (rIf (rAnd (rB (rBin eqD (rCl lenD (rCons (rVar 1) rNil)) (rC (.int 2)))) (rB (rBin inD (rBin ixD (rVar 1) (rC (.int 1))) (rTup (chkLen (rCons (rC (.str "1")) (rCons (rC (.str "2")) (rCons (rC (.str "3")) rNil)))))))) (rTup (chkLen (rCons (rC (.str "kinds")) (rCons (rCl intQ (rCons (rBin ixD (rVar 1) (rC (.int 1))) rNil)) rNil)))) (rC .non))) rNext) (rSeq (rIfS (rB (rBin eqD (rBin ixD (rVar 1) (rC (.int 0))) (rC (.str "look")))) (rRet (rIf (rAnd (rB (rBin eqD (rCl lenD (rCons (rVar 1) rNil)) (rC (.int 2)))) (rB (rBin inD (rBin ixD (rVar 1) (rC (.int 1))) (rC (.tup [.str "who", .str "left", .str "none"]))))) (rTup (chkLen (rCons (rC (.str "look")) (rCons (rBin ixD (rVar 1) (rC (.int 1))) rNil)))) (rC .non))) rNext) (rSeq (rIfS (rB (rBin eqD (rBin ixD (rVar 1) (rC (.int 0))) (rC (.str "stand")))) (rSeq (rSetF 2 (rAndV (rChain leI leI (rC (.int 2)) (rCl lenD (rCons (rVar 1) rNil)) (rC (.int 3))) (rCl allD (rCons (rUp (rLc (rItems (rSl sliceQ (rVar 1) (rPt (rC (.int 1))) rNoPt)) [4] (gN 4) rYes (rBin inD (rVar 4) (rC (.tup [.str "0", .str "1", .str "2"]))))) rNil)))) (rRet (rIf (rB (rVar 2)) (rTup (chkLen (rCons (rC (.str "stand")) (rCons (rCl tupD (rCons (rUp (rLc (rItems (rSl sliceQ (rVar 1) (rPt (rC (.int 1))) rNoPt)) [4] (gN 4) rYes (rCl intQ (rCons (rVar 4) rNil)))) rNil)) rNil)))) (rC .non)))) rNext) (rSeq (rSetF 3 (rIf (rB (rBin eqD (rBin ixD (rVar 1) (rC (.int 0))) (rC (.str "guest")))) (rCall C_guest_in (rCons (rSl sliceQ (rVar 1) (rPt (rC (.int 1))) rNoPt) rNil)) (rC .non))) (rRet (rIf (rB (rBin notND (rVar 3) (rC .non))) (rTup (chkLen (rCons (rC (.str "guest")) (rCons (rVar 3) rNil)))) (rC .non)))))))) [.val x0, .un, .un, .un, .un] S) := rfl
def q0_piece_of : VS.Env → Sto → Res D := (rBin inD (rVar 4) (rC (.tup [.str "0", .str "1", .str "2"])))
def q1_piece_of : RS := (rSeq (rSetF 2 (rAndV (rChain leI leI (rC (.int 2)) (rCl lenD (rCons (rVar 1) rNil)) (rC (.int 3))) (rCl allD (rCons (rUp (rLc (rItems (rSl sliceQ (rVar 1) (rPt (rC (.int 1))) rNoPt)) [4] (gN 4) rYes q0_piece_of)) rNil)))) (rRet (rIf (rB (rVar 2)) (rTup (chkLen (rCons (rC (.str "stand")) (rCons (rCl tupD (rCons (rUp (rLc (rItems (rSl sliceQ (rVar 1) (rPt (rC (.int 1))) rNoPt)) [4] (gN 4) rYes (rCl intQ (rCons (rVar 4) rNil)))) rNil)) rNil)))) (rC .non))))
def q2_piece_of : RS := (rSeq (rSetF 3 (rIf (rB (rBin eqD (rBin ixD (rVar 1) (rC (.int 0))) (rC (.str "guest")))) (rCall C_guest_in (rCons (rSl sliceQ (rVar 1) (rPt (rC (.int 1))) rNoPt) rNil)) (rC .non))) (rRet (rIf (rB (rBin notND (rVar 3) (rC .non))) (rTup (chkLen (rCons (rC (.str "guest")) (rCons (rVar 3) rNil)))) (rC .non))))
def q3_piece_of : RS := (rSeq (rIfS (rB (rBin eqD (rBin ixD (rVar 1) (rC (.int 0))) (rC (.str "stand")))) q1_piece_of rNext) q2_piece_of)
def q4_piece_of : RS := (rSeq (rIfS (rB (rBin eqD (rBin ixD (rVar 1) (rC (.int 0))) (rC (.str "look")))) (rRet (rIf (rAnd (rB (rBin eqD (rCl lenD (rCons (rVar 1) rNil)) (rC (.int 2)))) (rB (rBin inD (rBin ixD (rVar 1) (rC (.int 1))) (rC (.tup [.str "who", .str "left", .str "none"]))))) (rTup (chkLen (rCons (rC (.str "look")) (rCons (rBin ixD (rVar 1) (rC (.int 1))) rNil)))) (rC .non))) rNext) q3_piece_of)
def q5_piece_of : RS := (rSeq (rIfS (rB (rBin eqD (rBin ixD (rVar 1) (rC (.int 0))) (rC (.str "kinds")))) (rRet (rIf (rAnd (rB (rBin eqD (rCl lenD (rCons (rVar 1) rNil)) (rC (.int 2)))) (rB (rBin inD (rBin ixD (rVar 1) (rC (.int 1))) (rTup (chkLen (rCons (rC (.str "1")) (rCons (rC (.str "2")) (rCons (rC (.str "3")) rNil)))))))) (rTup (chkLen (rCons (rC (.str "kinds")) (rCons (rCl intQ (rCons (rBin ixD (rVar 1) (rC (.int 1))) rNil)) rNil)))) (rC .non))) rNext) q4_piece_of)
def q6_piece_of : RS := (rSeq (rSetF 1 (rFz (rM1 splitD (rVar 0) (rC (.str " "))))) q5_piece_of)
theorem v_piece_of (x0 : D) (S : Sto) : C_piece_of [x0] S = resOf (q6_piece_of [.val x0, .un, .un, .un, .un] S) := rfl

def N_cook_in : List Str := ["value", "found", "number", "text", "piece", "guests", "lot", "words", "row", "word", "part"]
abbrev r_cook_in : RS := (rSeq (rIfS (rNot (rB (rIsT "str" (rVar 0)))) (fun _ _ => Fl.stuck) rNext) (rSeq (rSetO 1 (chkLen rNil)) (rSeq (rFzS 1 (rFor (rCl enumD (rCons (rFz (rM1 splitD (rVar 0) (rC (.str "\n")))) rNil)) (gT (gsCons (gN 2) (gsCons (gN 3) gsNil))) (rSeq (rSetF 4 (rCall C_piece_of (rCons (rVar 3) rNil))) (rSeq (rIfS (rB (rBin isND (rVar 4) (rC .non))) (fun _ _ => Fl.stuck) rNext) (rApp 1 (rVar 4)))))) (rSeq (rSetF 5 (rCl tupD (rCons (rUp (rLc (rItems (rVar 1)) [9, 10] (gT (gsCons (gN 9) (gsCons (gN 10) gsNil))) (rB (rBin eqD (rVar 9) (rC (.str "guest")))) (rVar 10))) rNil))) (rSeq (rSetF 6 (rCl tupD (rCons (rUp (rLc (rItems (rVar 1)) [9, 10] (gT (gsCons (gN 9) (gsCons (gN 10) gsNil))) (rB (rBin eqD (rVar 9) (rC (.str "stand")))) (rVar 10))) rNil))) (rSeq (rSetF 7 (rBin addQ (rUp (rBin catL (rUp (rBin catL (rUp (chkLen (rCons (rC (.str "kinds")) rNil))) (rUp (rBin repD (rUp (chkLen (rCons (rC (.str "guest")) rNil))) (rCl lenD (rCons (rVar 5) rNil)))))) (rUp (chkLen (rCons (rC (.str "look")) rNil))))) (rUp (rBin repD (rUp (chkLen (rCons (rC (.str "stand")) rNil))) (rCl lenD (rCons (rVar 6) rNil)))))) (rSeq (rSetF 8 (rTup (chkLen (rCons (rBin ixD (rBin ixD (rVar 1) (rC (.int 0))) (rC (.int 1))) (rCons (rVar 5) rNil))))) (rSeq (rIfS (rOr (rB (rBin neD (rUp (rLc (rItems (rVar 1)) [9, 10] (gT (gsCons (gN 9) (gsCons (gN 10) gsNil))) rYes (rVar 9))) (rVar 7))) (rOr (rNot (rB (rCall C_is_row_value (rCons (rVar 8) rNil)))) (rNot (rB (rCall C_is_lot_value (rCons (rVar 8) (rCons (rVar 6) rNil))))))) (fun _ _ => Fl.stuck) rNext) (rRet (rTup (chkLen (rCons (rVar 8) (rCons (rBin ixD (rBin ixD (rVar 1) (rBin addD (rC (.int 1)) (rCl lenD (rCons (rVar 5) rNil)))) (rC (.int 1))) (rCons (rVar 6) rNil))))))))))))))
def C_cook_in : List D → Sto → Res D := fun ds S => resOf (r_cook_in (env0 (N_cook_in).length ds) S)
theorem d_cook_in (Tp : Top K mg) : HasFn P w K mg base T "cook_in" 7 1 C_cook_in := by
  obtain ⟨f, fd, G, hm⟩ := Tp.fn 18 rfl
  have nd : (N_cook_in).Nodup := by decide +kernel
  refine fn_mk (N := N_cook_in) (ps := ["value"]) G ⟨rfl, rfl, rfl, nd, rfl, by decide +kernel, by decide +kernel⟩ hm (G.binds (fun _ _ _ _ _ _ us hl => match us, hl with | [_], _ => rfl)) r_cook_in (fun cdv A outer s H E F hF hcv hr tk => ?_) fun ds S _ _ => rfl
  have hu := hr.units
  have hu0 := hr.units0
  have hu1 := room65 hr
  exact (vs_cons (vs_if (vt_not (vt_val (ve_isi (vx_of_vf (qv 0)) (Tp.fr 0 rfl) (Tp.fr 6 rfl) (by decide +kernel)))) (vs_one vs_never1) vs_nil) (vs_cons (qsetO 1 nd (ve_lst va_nil)) (vs_cons (vs_fz 1 (vs_for (passes_of rfl) rfl (vi_enum (va_cons (vf_of_vo (ve_split (qv 0) ve_str)) va_nil) (Tp.fr 9 rfl)) (vg_tup rfl (vgs_cons (qg 2 nd) (vgs_cons (qg 3 nd) vgs_nil)) (glen_cons (glen_cons glen_nil))) (vs_cons (qsetF 4 nd (ve_call (d_piece_of Tp) hr tk (lens_cons lens_nil) (va_cons (qv 3) va_nil))) (vs_cons (vs_if (vt_cmp vop_isN mon_X mon_F (vx_of_vf (qv 4)) ve_non (nomark _)) (vs_one vs_never1) vs_nil) (vs_one (vs_app (i := 1) rfl (by first | exact Or.inl rfl | exact Or.inr (Or.inl rfl)) (qv 4))))))) (vs_cons (qsetF 5 nd (ve_callTy cl_tuple anti_F (vax_cons (vx_of_vo (ve_lc rfl nd (vie_seq (vx_of_vf (qv 1))) (blkOk_by (own := [("word", 9), ("part", 10)]) (by kernel_rfl)) (fun _ _ _ _ _ => (vg_tup rfl (vgs_cons (qg 9 nd) (vgs_cons (qg 10 nd) vgs_nil)) (glen_cons (glen_cons glen_nil)))) (fun _ _ _ _ _ => (vts_one (vt_cmp (vop_eq hu) mon_X mon_X (vx_of_vf (qv 9)) (vx_of_vf ve_str) (nomark _)))) (fun _ _ _ _ _ => (qv 10)) (by decide))) vax_nil) (Tp.fr 3 rfl) (by decide +kernel))) (vs_cons (qsetF 6 nd (ve_callTy cl_tuple anti_F (vax_cons (vx_of_vo (ve_lc rfl nd (vie_seq (vx_of_vf (qv 1))) (blkOk_by (own := [("word", 9), ("part", 10)]) (by kernel_rfl)) (fun _ _ _ _ _ => (vg_tup rfl (vgs_cons (qg 9 nd) (vgs_cons (qg 10 nd) vgs_nil)) (glen_cons (glen_cons glen_nil)))) (fun _ _ _ _ _ => (vts_one (vt_cmp (vop_eq hu) mon_X mon_X (vx_of_vf (qv 9)) (vx_of_vf ve_str) (nomark _)))) (fun _ _ _ _ _ => (qv 10)) (by decide))) vax_nil) (Tp.fr 3 rfl) (by decide +kernel))) (vs_cons (qsetF 7 nd (vf_of_vq (ve_binQ vop_addQ mon_X mon_X anti_Q (vx_of_vo (ve_binQ vop_catL mon_X mon_X anti_O (vx_of_vo (ve_binQ vop_catL mon_X mon_X anti_O (vx_of_vo (ve_lst (va_cons ve_str va_nil))) (vx_of_vo (ve_binQ vop_repL mon_X mon_X anti_O (vx_of_vo (ve_lst (va_cons ve_str va_nil))) (vx_of_vf (ve_callB cl_len anti_F (vax_cons (vx_of_vf (qv 5)) vax_nil) (Tp.fr 4 rfl) (by decide +kernel))))))) (vx_of_vo (ve_lst (va_cons ve_str va_nil))))) (vx_of_vo (ve_binQ vop_repL mon_X mon_X anti_O (vx_of_vo (ve_lst (va_cons ve_str va_nil))) (vx_of_vf (ve_callB cl_len anti_F (vax_cons (vx_of_vf (qv 6)) vax_nil) (Tp.fr 4 rfl) (by decide +kernel)))))))) (vs_cons (qsetF 8 nd (ve_tup (va_cons (ve_ix (vx_of_vf (ve_ix (vx_of_vf (qv 1)) ve_int)) ve_int) (va_cons (qv 5) va_nil)))) (vs_cons (vs_if (vt_w (vw_or (vt_cmp (vop_ne hu) mon_X mon_X (vx_of_vo (ve_lc rfl nd (vie_seq (vx_of_vf (qv 1))) (blkOk_by (own := [("word", 9), ("part", 10)]) (by kernel_rfl)) (fun _ _ _ _ _ => (vg_tup rfl (vgs_cons (qg 9 nd) (vgs_cons (qg 10 nd) vgs_nil)) (glen_cons (glen_cons glen_nil)))) (fun _ _ _ _ _ => vts_nil) (fun _ _ _ _ _ => (qv 9)) (by decide))) (vx_of_vf (qv 7)) (nomark _)) (vw_or (vt_not (vt_val (ve_call ((d_is_row_value Tp).mono (by decide : 5 ≤ 6)) hr tk (lens_cons lens_nil) (va_cons (qv 8) va_nil)))) (vw_or1 (vt_not (vt_val (ve_call ((d_is_lot_value Tp).mono (by decide : 3 ≤ 6)) hr tk (lens_cons (lens_cons lens_nil)) (va_cons (qv 8) (va_cons (qv 6) va_nil))))))))) (vs_one vs_never1) vs_nil) (vs_one (vs_ret (ve_tup (va_cons (qv 8) (va_cons (ve_ix (vx_of_vf (ve_ix (vx_of_vf (qv 1)) (ve_bin vop_add mon_F mon_F anti_F ve_int (ve_callB cl_len anti_F (vax_cons (vx_of_vf (qv 5)) vax_nil) (Tp.fr 4 rfl) (by decide +kernel))))) ve_int) (va_cons (qv 6) va_nil))))))))))))))
theorem u_cook_in (x0 : D) (S : Sto) : C_cook_in [x0] S = resOf ((rSeq (rIfS (rNot (rB (rIsT "str" (rVar 0)))) (fun _ _ => Fl.stuck) rNext) (rSeq (rSetO 1 (chkLen rNil)) (rSeq (rFzS 1 (rFor (rCl enumD (rCons (rFz (rM1 splitD (rVar 0) (rC (.str "\n")))) rNil)) (gT (gsCons (gN 2) (gsCons (gN 3) gsNil))) (rSeq (rSetF 4 (rCall C_piece_of (rCons (rVar 3) rNil))) (rSeq (rIfS (rB (rBin isND (rVar 4) (rC .non))) (fun _ _ => Fl.stuck) rNext) (rApp 1 (rVar 4)))))) (rSeq (rSetF 5 (rCl tupD (rCons (rUp (rLc (rItems (rVar 1)) [9, 10] (gT (gsCons (gN 9) (gsCons (gN 10) gsNil))) (rB (rBin eqD (rVar 9) (rC (.str "guest")))) (rVar 10))) rNil))) (rSeq (rSetF 6 (rCl tupD (rCons (rUp (rLc (rItems (rVar 1)) [9, 10] (gT (gsCons (gN 9) (gsCons (gN 10) gsNil))) (rB (rBin eqD (rVar 9) (rC (.str "stand")))) (rVar 10))) rNil))) (rSeq (rSetF 7 (rBin addQ (rUp (rBin catL (rUp (rBin catL (rUp (chkLen (rCons (rC (.str "kinds")) rNil))) (rUp (rBin repD (rUp (chkLen (rCons (rC (.str "guest")) rNil))) (rCl lenD (rCons (rVar 5) rNil)))))) (rUp (chkLen (rCons (rC (.str "look")) rNil))))) (rUp (rBin repD (rUp (chkLen (rCons (rC (.str "stand")) rNil))) (rCl lenD (rCons (rVar 6) rNil)))))) (rSeq (rSetF 8 (rTup (chkLen (rCons (rBin ixD (rBin ixD (rVar 1) (rC (.int 0))) (rC (.int 1))) (rCons (rVar 5) rNil))))) (rSeq (rIfS (rOr (rB (rBin neD (rUp (rLc (rItems (rVar 1)) [9, 10] (gT (gsCons (gN 9) (gsCons (gN 10) gsNil))) rYes (rVar 9))) (rVar 7))) (rOr (rNot (rB (rCall C_is_row_value (rCons (rVar 8) rNil)))) (rNot (rB (rCall C_is_lot_value (rCons (rVar 8) (rCons (rVar 6) rNil))))))) (fun _ _ => Fl.stuck) rNext) (rRet (rTup (chkLen (rCons (rVar 8) (rCons (rBin ixD (rBin ixD (rVar 1) (rBin addD (rC (.int 1)) (rCl lenD (rCons (rVar 5) rNil)))) (rC (.int 1))) (rCons (rVar 6) rNil)))))))))))))) [.val x0, .un, .un, .un, .un, .un, .un, .un, .un, .un, .un] S) := rfl
def q0_cook_in : RS := (rSeq (rIfS (rB (rBin isND (rVar 4) (rC .non))) (fun _ _ => Fl.stuck) rNext) (rApp 1 (rVar 4)))
def q1_cook_in : RS := (rSeq (rSetF 4 (rCall C_piece_of (rCons (rVar 3) rNil))) q0_cook_in)
def q2_cook_in : RS := (rSeq (rIfS (rOr (rB (rBin neD (rUp (rLc (rItems (rVar 1)) [9, 10] (gT (gsCons (gN 9) (gsCons (gN 10) gsNil))) rYes (rVar 9))) (rVar 7))) (rOr (rNot (rB (rCall C_is_row_value (rCons (rVar 8) rNil)))) (rNot (rB (rCall C_is_lot_value (rCons (rVar 8) (rCons (rVar 6) rNil))))))) (fun _ _ => Fl.stuck) rNext) (rRet (rTup (chkLen (rCons (rVar 8) (rCons (rBin ixD (rBin ixD (rVar 1) (rBin addD (rC (.int 1)) (rCl lenD (rCons (rVar 5) rNil)))) (rC (.int 1))) (rCons (rVar 6) rNil)))))))
def q3_cook_in : RS := (rSeq (rSetF 8 (rTup (chkLen (rCons (rBin ixD (rBin ixD (rVar 1) (rC (.int 0))) (rC (.int 1))) (rCons (rVar 5) rNil))))) q2_cook_in)
def q4_cook_in : RS := (rSeq (rSetF 7 (rBin addQ (rUp (rBin catL (rUp (rBin catL (rUp (chkLen (rCons (rC (.str "kinds")) rNil))) (rUp (rBin repD (rUp (chkLen (rCons (rC (.str "guest")) rNil))) (rCl lenD (rCons (rVar 5) rNil)))))) (rUp (chkLen (rCons (rC (.str "look")) rNil))))) (rUp (rBin repD (rUp (chkLen (rCons (rC (.str "stand")) rNil))) (rCl lenD (rCons (rVar 6) rNil)))))) q3_cook_in)
def q5_cook_in : RS := (rSeq (rSetF 6 (rCl tupD (rCons (rUp (rLc (rItems (rVar 1)) [9, 10] (gT (gsCons (gN 9) (gsCons (gN 10) gsNil))) (rB (rBin eqD (rVar 9) (rC (.str "stand")))) (rVar 10))) rNil))) q4_cook_in)
def q6_cook_in : RS := (rSeq (rSetF 5 (rCl tupD (rCons (rUp (rLc (rItems (rVar 1)) [9, 10] (gT (gsCons (gN 9) (gsCons (gN 10) gsNil))) (rB (rBin eqD (rVar 9) (rC (.str "guest")))) (rVar 10))) rNil))) q5_cook_in)
def q7_cook_in : RS := (rSeq (rFzS 1 (rFor (rCl enumD (rCons (rFz (rM1 splitD (rVar 0) (rC (.str "\n")))) rNil)) (gT (gsCons (gN 2) (gsCons (gN 3) gsNil))) q1_cook_in)) q6_cook_in)
def q8_cook_in : RS := (rSeq (rSetO 1 (chkLen rNil)) q7_cook_in)
def q9_cook_in : RS := (rSeq (rIfS (rNot (rB (rIsT "str" (rVar 0)))) (fun _ _ => Fl.stuck) rNext) q8_cook_in)
theorem v_cook_in (x0 : D) (S : Sto) : C_cook_in [x0] S = resOf (q9_cook_in [.val x0, .un, .un, .un, .un, .un, .un, .un, .un, .un, .un] S) := rfl

def N_cook_text : List Str := ["row", "look", "lot"]
abbrev r_cook_text : RS := (rSeq (rDrop (rCall C_need_cook (rCons (rVar 0) (rCons (rVar 1) (rCons (rVar 2) rNil))))) (rRet (rM1 joinD (rC (.str "\n")) (rCall C_lines_of (rCons (rVar 0) (rCons (rVar 1) (rCons (rVar 2) rNil)))))))
def C_cook_text : List D → Sto → Res D := fun ds S => resOf (r_cook_text (env0 (N_cook_text).length ds) S)
theorem d_cook_text (Tp : Top K mg) : HasFn P w K mg base T "cook_text" 8 3 C_cook_text := by
  obtain ⟨f, fd, G, hm⟩ := Tp.fn 19 rfl
  have nd : (N_cook_text).Nodup := by decide +kernel
  refine fn_mk (N := N_cook_text) (ps := ["row", "look", "lot"]) G ⟨rfl, rfl, rfl, nd, rfl, by decide +kernel, by decide +kernel⟩ hm (G.binds (fun _ _ _ _ _ _ us hl => match us, hl with | [_, _, _], _ => rfl)) r_cook_text (fun cdv A outer s H E F hF hcv hr tk => ?_) fun ds S _ _ => rfl
  have hu := hr.units
  have hu0 := hr.units0
  have hu1 := room65 hr
  exact (vs_cons (vs_expr (ve_call (d_need_cook Tp) hr tk (lens_cons (lens_cons (lens_cons lens_nil))) (va_cons (qv 0) (va_cons (qv 1) (va_cons (qv 2) va_nil))))) (vs_one (vs_ret (ve_join ve_str (vx_of_vf (ve_call ((d_lines_of Tp).mono (by decide : 2 ≤ 7)) hr tk (lens_cons (lens_cons (lens_cons lens_nil))) (va_cons (qv 0) (va_cons (qv 1) (va_cons (qv 2) va_nil)))))))))
theorem u_cook_text (x0 x1 x2 : D) (S : Sto) : C_cook_text [x0, x1, x2] S = resOf ((rSeq (rDrop (rCall C_need_cook (rCons (rVar 0) (rCons (rVar 1) (rCons (rVar 2) rNil))))) (rRet (rM1 joinD (rC (.str "\n")) (rCall C_lines_of (rCons (rVar 0) (rCons (rVar 1) (rCons (rVar 2) rNil))))))) [.val x0, .val x1, .val x2] S) := rfl
def q0_cook_text : RS := (rSeq (rDrop (rCall C_need_cook (rCons (rVar 0) (rCons (rVar 1) (rCons (rVar 2) rNil))))) (rRet (rM1 joinD (rC (.str "\n")) (rCall C_lines_of (rCons (rVar 0) (rCons (rVar 1) (rCons (rVar 2) rNil)))))))
theorem v_cook_text (x0 x1 x2 : D) (S : Sto) : C_cook_text [x0, x1, x2] S = resOf (q0_cook_text [.val x0, .val x1, .val x2] S) := rfl

def N_read_cook : List Str := ["value"]
abbrev r_read_cook : RS := (rRet (rCall C_cook_in (rCons (rVar 0) rNil)))
def C_read_cook : List D → Sto → Res D := fun ds S => resOf (r_read_cook (env0 (N_read_cook).length ds) S)
theorem d_read_cook (Tp : Top K mg) : HasFn P w K mg base T "read_cook" 8 1 C_read_cook := by
  obtain ⟨f, fd, G, hm⟩ := Tp.fn 20 rfl
  have nd : (N_read_cook).Nodup := by decide +kernel
  refine fn_mk (N := N_read_cook) (ps := ["value"]) G ⟨rfl, rfl, rfl, nd, rfl, by decide +kernel, by decide +kernel⟩ hm (G.binds (fun _ _ _ _ _ _ us hl => match us, hl with | [_], _ => rfl)) r_read_cook (fun cdv A outer s H E F hF hcv hr tk => ?_) fun ds S _ _ => rfl
  have hu := hr.units
  have hu0 := hr.units0
  have hu1 := room65 hr
  exact (vs_one (vs_ret (ve_call (d_cook_in Tp) hr tk (lens_cons lens_nil) (va_cons (qv 0) va_nil))))
theorem u_read_cook (x0 : D) (S : Sto) : C_read_cook [x0] S = resOf ((rRet (rCall C_cook_in (rCons (rVar 0) rNil))) [.val x0] S) := rfl
theorem v_read_cook (x0 : D) (S : Sto) : C_read_cook [x0] S = resOf ((rRet (rCall C_cook_in (rCons (rVar 0) rNil))) [.val x0] S) := rfl

def N__law_deck : List Str := ["cell", "turn"]
abbrev r__law_deck : RS := (rSeq (rIfS (rB (rBin geI (rVar 0) (rBin powD (rC (.int 10)) (rC (.int 18))))) (rRet (rCell (rCons (rBin subD (rVar 0) (rBin powD (rC (.int 10)) (rC (.int 18)))) (rCons (rBin modD (rVar 0) (rC (.int 2147483579))) (rCons (rVar 1) rNil))))) rNext) (rRet (rCell (rCons (rC (.int 0)) (rCons (rBin modD (rVar 0) (rC (.int 2147483579))) (rCons (rVar 1) rNil))))))
def C__law_deck : List D → Sto → Res D := fun ds S => resOf (r__law_deck (env0 (N__law_deck).length ds) S)
theorem d__law_deck (Tp : Top K mg) : HasFn P w K mg base T "_law_deck" 1 2 C__law_deck := by
  obtain ⟨f, fd, G, hm⟩ := Tp.fn 21 rfl
  have nd : (N__law_deck).Nodup := by decide +kernel
  refine fn_mk (N := N__law_deck) (ps := ["cell", "turn"]) G ⟨rfl, rfl, rfl, nd, rfl, by decide +kernel, by decide +kernel⟩ hm (G.binds (fun _ _ _ _ _ _ us hl => match us, hl with | [_, _], _ => rfl)) r__law_deck (fun cdv A outer s H E F hF hcv hr tk => ?_) fun ds S _ _ => rfl
  have hu := hr.units
  have hu0 := hr.units0
  have hu1 := room65 hr
  exact (vs_cons (vs_if (vt_cmp vop_ge mon_F mon_F (qv 0) (ve_bin vop_pow mon_F mon_F anti_F ve_int ve_int) (nomark _)) (vs_one (vs_ret (ve_cell (va_cons (ve_bin vop_sub mon_F mon_F anti_F (qv 0) (ve_bin vop_pow mon_F mon_F anti_F ve_int ve_int)) (va_cons (ve_bin vop_mod mon_F mon_F anti_F (qv 0) ve_int) (va_cons (qv 1) va_nil)))))) vs_nil) (vs_one (vs_ret (ve_cell (va_cons ve_int (va_cons (ve_bin vop_mod mon_F mon_F anti_F (qv 0) ve_int) (va_cons (qv 1) va_nil)))))))
theorem u__law_deck (x0 x1 : D) (S : Sto) : C__law_deck [x0, x1] S = resOf ((rSeq (rIfS (rB (rBin geI (rVar 0) (rBin powD (rC (.int 10)) (rC (.int 18))))) (rRet (rCell (rCons (rBin subD (rVar 0) (rBin powD (rC (.int 10)) (rC (.int 18)))) (rCons (rBin modD (rVar 0) (rC (.int 2147483579))) (rCons (rVar 1) rNil))))) rNext) (rRet (rCell (rCons (rC (.int 0)) (rCons (rBin modD (rVar 0) (rC (.int 2147483579))) (rCons (rVar 1) rNil)))))) [.val x0, .val x1] S) := rfl
def q0__law_deck : RS := (rSeq (rIfS (rB (rBin geI (rVar 0) (rBin powD (rC (.int 10)) (rC (.int 18))))) (rRet (rCell (rCons (rBin subD (rVar 0) (rBin powD (rC (.int 10)) (rC (.int 18)))) (rCons (rBin modD (rVar 0) (rC (.int 2147483579))) (rCons (rVar 1) rNil))))) rNext) (rRet (rCell (rCons (rC (.int 0)) (rCons (rBin modD (rVar 0) (rC (.int 2147483579))) (rCons (rVar 1) rNil))))))
theorem v__law_deck (x0 x1 : D) (S : Sto) : C__law_deck [x0, x1] S = resOf (q0__law_deck [.val x0, .val x1] S) := rfl

def N__law_pick : List Str := ["deck", "size", "found", "number"]
abbrev r__law_pick : RS := (rSeq (rIfS (rB (rBin gtI (rIxO (rVar 0) (rC (.int 0))) (rC (.int 1)))) (rSeq (rSetF 2 (rBin modD (rCl intD (rCons (rIxO (rVar 0) (rC (.int 0))) rNil)) (rVar 1))) (rSeq (rSetObj (rVar 0) (rC (.int 0)) (rBin divD (rIxO (rVar 0) (rC (.int 0))) (rVar 1))) (rRet (rVar 2)))) rNext) (rSeq (rSetObj (rVar 0) (rC (.int 2)) (rBin addD (rIxO (rVar 0) (rC (.int 2))) (rC (.int 1)))) (rSeq (rSetF 3 (rBin modD (rBin powD (rBin addQ (rIxO (rVar 0) (rC (.int 1))) (rBin mulD (rC (.int 15485867)) (rIxO (rVar 0) (rC (.int 2))))) (rC (.int 5))) (rC (.int 2147483647)))) (rSeq (rSetF 2 (rBin divD (rBin modD (rBin powD (rBin addQ (rVar 3) (rBin mulD (rC (.int 7919)) (rIxO (rVar 0) (rC (.int 2))))) (rC (.int 3))) (rC (.int 2147483629))) (rC (.int 32)))) (rRet (rBin modD (rCl intD (rCons (rVar 2) rNil)) (rVar 1)))))))
def C__law_pick : List D → Sto → Res D := fun ds S => resOf (r__law_pick (env0 (N__law_pick).length ds) S)
theorem d__law_pick (Tp : Top K mg) : HasFn P w K mg base T "_law_pick" 1 2 C__law_pick := by
  obtain ⟨f, fd, G, hm⟩ := Tp.fn 22 rfl
  have nd : (N__law_pick).Nodup := by decide +kernel
  refine fn_mk (N := N__law_pick) (ps := ["deck", "size"]) G ⟨rfl, rfl, rfl, nd, rfl, by decide +kernel, by decide +kernel⟩ hm (G.binds (fun _ _ _ _ _ _ us hl => match us, hl with | [_, _], _ => rfl)) r__law_pick (fun cdv A outer s H E F hF hcv hr tk => ?_) fun ds S _ _ => rfl
  have hu := hr.units
  have hu0 := hr.units0
  have hu1 := room65 hr
  exact (vs_cons (vs_if (vt_cmp vop_gt mon_F mon_F (ve_ixO (qv 0) ve_int) ve_int (nomark _)) (vs_cons (qsetF 2 nd (ve_bin vop_mod mon_F mon_F anti_F (ve_callTy cl_int anti_F (vax_cons (vx_of_vf (ve_ixO (qv 0) ve_int)) vax_nil) (Tp.fr 1 rfl) (by decide +kernel)) (qv 1))) (vs_cons (vs_setObj (qv 0) ve_int (ve_bin vop_div mon_F mon_F anti_F (ve_ixO (qv 0) ve_int) (qv 1))) (vs_one (vs_ret (qv 2))))) vs_nil) (vs_cons (vs_setObj (qv 0) ve_int (ve_bin vop_add mon_F mon_F anti_F (ve_ixO (qv 0) ve_int) ve_int)) (vs_cons (qsetF 3 nd (ve_bin vop_mod mon_F mon_F anti_F (ve_bin vop_pow mon_F mon_F anti_F (vf_of_vq (ve_binQ vop_addQ mon_X mon_X anti_Q (vx_of_vf (ve_ixO (qv 0) ve_int)) (vx_of_vf (ve_bin vop_mul mon_F mon_F anti_F ve_int (ve_ixO (qv 0) ve_int))))) ve_int) ve_int)) (vs_cons (qsetF 2 nd (ve_bin vop_div mon_F mon_F anti_F (ve_bin vop_mod mon_F mon_F anti_F (ve_bin vop_pow mon_F mon_F anti_F (vf_of_vq (ve_binQ vop_addQ mon_X mon_X anti_Q (vx_of_vf (qv 3)) (vx_of_vf (ve_bin vop_mul mon_F mon_F anti_F ve_int (ve_ixO (qv 0) ve_int))))) ve_int) ve_int) ve_int)) (vs_one (vs_ret (ve_bin vop_mod mon_F mon_F anti_F (ve_callTy cl_int anti_F (vax_cons (vx_of_vf (qv 2)) vax_nil) (Tp.fr 1 rfl) (by decide +kernel)) (qv 1))))))))
theorem u__law_pick (x0 x1 : D) (S : Sto) : C__law_pick [x0, x1] S = resOf ((rSeq (rIfS (rB (rBin gtI (rIxO (rVar 0) (rC (.int 0))) (rC (.int 1)))) (rSeq (rSetF 2 (rBin modD (rCl intD (rCons (rIxO (rVar 0) (rC (.int 0))) rNil)) (rVar 1))) (rSeq (rSetObj (rVar 0) (rC (.int 0)) (rBin divD (rIxO (rVar 0) (rC (.int 0))) (rVar 1))) (rRet (rVar 2)))) rNext) (rSeq (rSetObj (rVar 0) (rC (.int 2)) (rBin addD (rIxO (rVar 0) (rC (.int 2))) (rC (.int 1)))) (rSeq (rSetF 3 (rBin modD (rBin powD (rBin addQ (rIxO (rVar 0) (rC (.int 1))) (rBin mulD (rC (.int 15485867)) (rIxO (rVar 0) (rC (.int 2))))) (rC (.int 5))) (rC (.int 2147483647)))) (rSeq (rSetF 2 (rBin divD (rBin modD (rBin powD (rBin addQ (rVar 3) (rBin mulD (rC (.int 7919)) (rIxO (rVar 0) (rC (.int 2))))) (rC (.int 3))) (rC (.int 2147483629))) (rC (.int 32)))) (rRet (rBin modD (rCl intD (rCons (rVar 2) rNil)) (rVar 1))))))) [.val x0, .val x1, .un, .un] S) := rfl
def q0__law_pick : RS := (rSeq (rSetObj (rVar 0) (rC (.int 0)) (rBin divD (rIxO (rVar 0) (rC (.int 0))) (rVar 1))) (rRet (rVar 2)))
def q1__law_pick : RS := (rSeq (rSetF 2 (rBin modD (rCl intD (rCons (rIxO (rVar 0) (rC (.int 0))) rNil)) (rVar 1))) q0__law_pick)
def q2__law_pick : RS := (rSeq (rSetF 2 (rBin divD (rBin modD (rBin powD (rBin addQ (rVar 3) (rBin mulD (rC (.int 7919)) (rIxO (rVar 0) (rC (.int 2))))) (rC (.int 3))) (rC (.int 2147483629))) (rC (.int 32)))) (rRet (rBin modD (rCl intD (rCons (rVar 2) rNil)) (rVar 1))))
def q3__law_pick : RS := (rSeq (rSetF 3 (rBin modD (rBin powD (rBin addQ (rIxO (rVar 0) (rC (.int 1))) (rBin mulD (rC (.int 15485867)) (rIxO (rVar 0) (rC (.int 2))))) (rC (.int 5))) (rC (.int 2147483647)))) q2__law_pick)
def q4__law_pick : RS := (rSeq (rSetObj (rVar 0) (rC (.int 2)) (rBin addD (rIxO (rVar 0) (rC (.int 2))) (rC (.int 1)))) q3__law_pick)
def q5__law_pick : RS := (rSeq (rIfS (rB (rBin gtI (rIxO (rVar 0) (rC (.int 0))) (rC (.int 1)))) q1__law_pick rNext) q4__law_pick)
theorem v__law_pick (x0 x1 : D) (S : Sto) : C__law_pick [x0, x1] S = resOf (q5__law_pick [.val x0, .val x1, .un, .un] S) := rfl

def N__law_one : List Str := ["deck", "some"]
abbrev r__law_one : RS := (rRet (rBin ixD (rVar 1) (rCall C__law_pick (rCons (rVar 0) (rCons (rCl lenD (rCons (rVar 1) rNil)) rNil)))))
def C__law_one : List D → Sto → Res D := fun ds S => resOf (r__law_one (env0 (N__law_one).length ds) S)
theorem d__law_one (Tp : Top K mg) : HasFn P w K mg base T "_law_one" 2 2 C__law_one := by
  obtain ⟨f, fd, G, hm⟩ := Tp.fn 23 rfl
  have nd : (N__law_one).Nodup := by decide +kernel
  refine fn_mk (N := N__law_one) (ps := ["deck", "some"]) G ⟨rfl, rfl, rfl, nd, rfl, by decide +kernel, by decide +kernel⟩ hm (G.binds (fun _ _ _ _ _ _ us hl => match us, hl with | [_, _], _ => rfl)) r__law_one (fun cdv A outer s H E F hF hcv hr tk => ?_) fun ds S _ _ => rfl
  have hu := hr.units
  have hu0 := hr.units0
  have hu1 := room65 hr
  exact (vs_one (vs_ret (ve_ix (vx_of_vf (qv 1)) (ve_call (d__law_pick Tp) hr tk (lens_cons (lens_cons lens_nil)) (va_cons (qv 0) (va_cons (ve_callB cl_len anti_F (vax_cons (vx_of_vf (qv 1)) vax_nil) (Tp.fr 4 rfl) (by decide +kernel)) va_nil))))))
theorem u__law_one (x0 x1 : D) (S : Sto) : C__law_one [x0, x1] S = resOf ((rRet (rBin ixD (rVar 1) (rCall C__law_pick (rCons (rVar 0) (rCons (rCl lenD (rCons (rVar 1) rNil)) rNil))))) [.val x0, .val x1] S) := rfl
def q0__law_one : RS := (rRet (rBin ixD (rVar 1) (rCall C__law_pick (rCons (rVar 0) (rCons (rCl lenD (rCons (rVar 1) rNil)) rNil)))))
theorem v__law_one (x0 x1 : D) (S : Sto) : C__law_one [x0, x1] S = resOf (q0__law_one [.val x0, .val x1] S) := rfl

def N__law_sort : List Str := ["thing"]
abbrev r__law_sort : RS := (rSeq (rIfS (rB (rIsT "bool" (rVar 0))) (rRet (rC (.int 1))) rNext) (rSeq (rIfS (rB (rIsT "int" (rVar 0))) (rRet (rC (.int 2))) rNext) (rSeq (rIfS (rB (rIsT "str" (rVar 0))) (rRet (rC (.int 3))) rNext) (rSeq (rIfS (rB (rIsT "list" (rVar 0))) (rRet (rC (.int 4))) rNext) (rRet (rIf (rB (rIsT "tuple" (rVar 0))) (rC (.int 5)) (rC (.int 6))))))))
def C__law_sort : List D → Sto → Res D := fun ds S => resOf (r__law_sort (env0 (N__law_sort).length ds) S)
theorem d__law_sort (Tp : Top K mg) : HasFn P w K mg base T "_law_sort" 1 1 C__law_sort := by
  obtain ⟨f, fd, G, hm⟩ := Tp.fn 24 rfl
  have nd : (N__law_sort).Nodup := by decide +kernel
  refine fn_mk (N := N__law_sort) (ps := ["thing"]) G ⟨rfl, rfl, rfl, nd, rfl, by decide +kernel, by decide +kernel⟩ hm (G.binds (fun _ _ _ _ _ _ us hl => match us, hl with | [_], _ => rfl)) r__law_sort (fun cdv A outer s H E F hF hcv hr tk => ?_) fun ds S _ _ => rfl
  have hu := hr.units
  have hu0 := hr.units0
  have hu1 := room65 hr
  exact (vs_cons (vs_if (vt_val (ve_isi (vx_of_vf (qv 0)) (Tp.fr 0 rfl) (Tp.fr 2 rfl) (by decide +kernel))) (vs_one (vs_ret ve_int)) vs_nil) (vs_cons (vs_if (vt_val (ve_isi (vx_of_vf (qv 0)) (Tp.fr 0 rfl) (Tp.fr 1 rfl) (by decide +kernel))) (vs_one (vs_ret ve_int)) vs_nil) (vs_cons (vs_if (vt_val (ve_isi (vx_of_vf (qv 0)) (Tp.fr 0 rfl) (Tp.fr 6 rfl) (by decide +kernel))) (vs_one (vs_ret ve_int)) vs_nil) (vs_cons (vs_if (vt_val (ve_isi (vx_of_vf (qv 0)) (Tp.fr 0 rfl) (Tp.fr 10 rfl) (by decide +kernel))) (vs_one (vs_ret ve_int)) vs_nil) (vs_one (vs_ret (ve_if anti_F (vt_val (ve_isi (vx_of_vf (qv 0)) (Tp.fr 0 rfl) (Tp.fr 3 rfl) (by decide +kernel))) ve_int ve_int)))))))
theorem u__law_sort (x0 : D) (S : Sto) : C__law_sort [x0] S = resOf ((rSeq (rIfS (rB (rIsT "bool" (rVar 0))) (rRet (rC (.int 1))) rNext) (rSeq (rIfS (rB (rIsT "int" (rVar 0))) (rRet (rC (.int 2))) rNext) (rSeq (rIfS (rB (rIsT "str" (rVar 0))) (rRet (rC (.int 3))) rNext) (rSeq (rIfS (rB (rIsT "list" (rVar 0))) (rRet (rC (.int 4))) rNext) (rRet (rIf (rB (rIsT "tuple" (rVar 0))) (rC (.int 5)) (rC (.int 6)))))))) [.val x0] S) := rfl
def q0__law_sort : RS := (rSeq (rIfS (rB (rIsT "list" (rVar 0))) (rRet (rC (.int 4))) rNext) (rRet (rIf (rB (rIsT "tuple" (rVar 0))) (rC (.int 5)) (rC (.int 6)))))
def q1__law_sort : RS := (rSeq (rIfS (rB (rIsT "str" (rVar 0))) (rRet (rC (.int 3))) rNext) q0__law_sort)
def q2__law_sort : RS := (rSeq (rIfS (rB (rIsT "int" (rVar 0))) (rRet (rC (.int 2))) rNext) q1__law_sort)
def q3__law_sort : RS := (rSeq (rIfS (rB (rIsT "bool" (rVar 0))) (rRet (rC (.int 1))) rNext) q2__law_sort)
theorem v__law_sort (x0 : D) (S : Sto) : C__law_sort [x0] S = resOf (q3__law_sort [.val x0] S) := rfl

def N__law_same : List Str := ["told", "due", "k", "part"]
def C__law_same : Nat → List D → Sto → Res D
  | 0 => fun _ _ => .stuck
  | k + 1 => fun ds S => resOf ((rSeq (rIfS (rB (rBin neD (rCall C__law_sort (rCons (rVar 0) rNil)) (rCall C__law_sort (rCons (rVar 1) rNil)))) (rRet (rC (.bl false))) rNext) (rSeq (rIfS (rAnd (rB (rBin gtI (rCall C__law_sort (rCons (rVar 0) rNil)) (rC (.int 3)))) (rB (rBin ltI (rCall C__law_sort (rCons (rVar 0) rNil)) (rC (.int 6))))) (rSeq (rIfS (rB (rBin neD (rCl lenD (rCons (rVar 0) rNil)) (rCl lenD (rCons (rVar 1) rNil)))) (rRet (rC (.bl false))) rNext) (rRet (rBin eqD (rUp (rLc (rCl enumD (rCons (rVar 0) rNil)) [2, 3] (gT (gsCons (gN 2) (gsCons (gN 3) gsNil))) (rNot (rB (rCall (C__law_same k) (rCons (rVar 3) (rCons (rBin ixD (rVar 1) (rVar 2)) rNil))))) (rVar 2))) (rUp (chkLen rNil))))) rNext) (rRet (rBin eqD (rVar 0) (rVar 1))))) (env0 (N__law_same).length ds) S)
theorem d__law_same (Tp : Top K mg) : ∀ k : Nat, HasFn P w K mg base T "_law_same" (2 + k) 2 (C__law_same k) := by
  obtain ⟨f, fd, G, hm⟩ := Tp.fn 25 rfl
  have nd : (N__law_same).Nodup := by decide +kernel
  have sc : FnScope N__law_same ["told", "due"] (defScope (topS 49)) := ⟨rfl, rfl, rfl, nd, rfl, by decide +kernel, by decide +kernel⟩
  have bi := G.binds (ps := ["told", "due"]) (fun _ _ _ _ _ _ us hl => match us, hl with | [_, _], _ => rfl)
  intro k
  induction k with
  | zero => exact fn_mk (k := 1) (N := N__law_same) (ps := ["told", "due"]) G sc hm bi (fun _ _ => .stuck) (fun cdv A outer s H E F hF hcv hr tk => vs_never) fun ds S _ _ => rfl
  | succ k ih =>
    refine fn_mk (k := 2 + k) (N := N__law_same) (ps := ["told", "due"]) G sc hm bi ((rSeq (rIfS (rB (rBin neD (rCall C__law_sort (rCons (rVar 0) rNil)) (rCall C__law_sort (rCons (rVar 1) rNil)))) (rRet (rC (.bl false))) rNext) (rSeq (rIfS (rAnd (rB (rBin gtI (rCall C__law_sort (rCons (rVar 0) rNil)) (rC (.int 3)))) (rB (rBin ltI (rCall C__law_sort (rCons (rVar 0) rNil)) (rC (.int 6))))) (rSeq (rIfS (rB (rBin neD (rCl lenD (rCons (rVar 0) rNil)) (rCl lenD (rCons (rVar 1) rNil)))) (rRet (rC (.bl false))) rNext) (rRet (rBin eqD (rUp (rLc (rCl enumD (rCons (rVar 0) rNil)) [2, 3] (gT (gsCons (gN 2) (gsCons (gN 3) gsNil))) (rNot (rB (rCall (C__law_same k) (rCons (rVar 3) (rCons (rBin ixD (rVar 1) (rVar 2)) rNil))))) (rVar 2))) (rUp (chkLen rNil))))) rNext) (rRet (rBin eqD (rVar 0) (rVar 1)))))) (fun cdv A outer s H E F hF hcv hr tk => ?_) fun ds S _ _ => rfl
    subst hF
    have hu := hr.units
    have hu0 := hr.units0
    have hu1 := room65 hr
    exact (vs_cons (vs_if (vt_cmp (vop_ne hu) mon_X mon_X (vx_of_vf (ve_call ((d__law_sort Tp).mono (Nat.le_trans (by decide : 1 ≤ 2) (Nat.le_add_right _ k))) hr tk (lens_cons lens_nil) (va_cons (qv 0) va_nil))) (vx_of_vf (ve_call ((d__law_sort Tp).mono (Nat.le_trans (by decide : 1 ≤ 2) (Nat.le_add_right _ k))) hr tk (lens_cons lens_nil) (va_cons (qv 1) va_nil))) (nomark _)) (vs_one (vs_ret ve_bl)) vs_nil) (vs_cons (vs_if (vt_w (vw_and (vt_cmp vop_gt mon_F mon_F (ve_call ((d__law_sort Tp).mono (Nat.le_trans (by decide : 1 ≤ 2) (Nat.le_add_right _ k))) hr tk (lens_cons lens_nil) (va_cons (qv 0) va_nil)) ve_int (nomark _)) (vw_and1 (vt_cmp vop_lt mon_F mon_F (ve_call ((d__law_sort Tp).mono (Nat.le_trans (by decide : 1 ≤ 2) (Nat.le_add_right _ k))) hr tk (lens_cons lens_nil) (va_cons (qv 0) va_nil)) ve_int (nomark _))))) (vs_cons (vs_if (vt_cmp (vop_ne hu) mon_X mon_X (vx_of_vf (ve_callB cl_len anti_F (vax_cons (vx_of_vf (qv 0)) vax_nil) (Tp.fr 4 rfl) (by decide +kernel))) (vx_of_vf (ve_callB cl_len anti_F (vax_cons (vx_of_vf (qv 1)) vax_nil) (Tp.fr 4 rfl) (by decide +kernel))) (nomark _)) (vs_one (vs_ret ve_bl)) vs_nil) (vs_one (vs_ret (ve_cmp (vop_eq hu) mon_X mon_X anti_F (vx_of_vo (ve_lc rfl nd (vie_enum (vax_cons (vx_of_vf (qv 0)) vax_nil) (Tp.fr 9 rfl)) (blkOk_by (own := [("k", 2), ("part", 3)]) (by kernel_rfl)) (fun _ _ _ _ _ => (vg_tup rfl (vgs_cons (qg 2 nd) (vgs_cons (qg 3 nd) vgs_nil)) (glen_cons (glen_cons glen_nil)))) (fun _ _ _ _ _ => (vts_one (vt_not (vt_val (ve_call ih hr tk0 (lens_cons (lens_cons lens_nil)) (va_cons (qv 3) (va_cons (ve_ix (vx_of_vf (qv 1)) (qv 2)) va_nil))))))) (fun _ _ _ _ _ => (qv 2)) (by decide))) (vx_of_vo (ve_lst va_nil)) (nomark _))))) vs_nil) (vs_one (vs_ret (ve_cmp (vop_eq hu) mon_X mon_X anti_F (vx_of_vf (qv 0)) (vx_of_vf (qv 1)) (nomark _))))))
theorem u__law_same (k : Nat) (x0 x1 : D) (S : Sto) : C__law_same (k + 1) [x0, x1] S = resOf ((rSeq (rIfS (rB (rBin neD (rCall C__law_sort (rCons (rVar 0) rNil)) (rCall C__law_sort (rCons (rVar 1) rNil)))) (rRet (rC (.bl false))) rNext) (rSeq (rIfS (rAnd (rB (rBin gtI (rCall C__law_sort (rCons (rVar 0) rNil)) (rC (.int 3)))) (rB (rBin ltI (rCall C__law_sort (rCons (rVar 0) rNil)) (rC (.int 6))))) (rSeq (rIfS (rB (rBin neD (rCl lenD (rCons (rVar 0) rNil)) (rCl lenD (rCons (rVar 1) rNil)))) (rRet (rC (.bl false))) rNext) (rRet (rBin eqD (rUp (rLc (rCl enumD (rCons (rVar 0) rNil)) [2, 3] (gT (gsCons (gN 2) (gsCons (gN 3) gsNil))) (rNot (rB (rCall (C__law_same k) (rCons (rVar 3) (rCons (rBin ixD (rVar 1) (rVar 2)) rNil))))) (rVar 2))) (rUp (chkLen rNil))))) rNext) (rRet (rBin eqD (rVar 0) (rVar 1))))) [.val x0, .val x1, .un, .un] S) := rfl
def q0__law_same (k : Nat) : RS := (rSeq (rIfS (rB (rBin neD (rCl lenD (rCons (rVar 0) rNil)) (rCl lenD (rCons (rVar 1) rNil)))) (rRet (rC (.bl false))) rNext) (rRet (rBin eqD (rUp (rLc (rCl enumD (rCons (rVar 0) rNil)) [2, 3] (gT (gsCons (gN 2) (gsCons (gN 3) gsNil))) (rNot (rB (rCall (C__law_same k) (rCons (rVar 3) (rCons (rBin ixD (rVar 1) (rVar 2)) rNil))))) (rVar 2))) (rUp (chkLen rNil)))))
def q1__law_same (k : Nat) : RS := (rSeq (rIfS (rAnd (rB (rBin gtI (rCall C__law_sort (rCons (rVar 0) rNil)) (rC (.int 3)))) (rB (rBin ltI (rCall C__law_sort (rCons (rVar 0) rNil)) (rC (.int 6))))) (q0__law_same k) rNext) (rRet (rBin eqD (rVar 0) (rVar 1))))
def q2__law_same (k : Nat) : RS := (rSeq (rIfS (rB (rBin neD (rCall C__law_sort (rCons (rVar 0) rNil)) (rCall C__law_sort (rCons (rVar 1) rNil)))) (rRet (rC (.bl false))) rNext) (q1__law_same k))
theorem v__law_same (k : Nat) (x0 x1 : D) (S : Sto) : C__law_same (k + 1) [x0, x1] S = resOf ((q2__law_same k) [.val x0, .val x1, .un, .un] S) := rfl

def N__law_kin : List Str := ["e", "sorts", "labels", "label", "good"]
abbrev r__law_kin (a : Addr) (b : Nat → Bool) : RS := (rSeq (rSetF 1 (rFz (chkLen (rCons (rKin 0 a (b 0)) (rCons (rKin 0 a (b 1)) (rCons (rKin 0 a (b 2)) rNil)))))) (rSeq (rSetF 1 (rBin addQ (rVar 1) (rUp (chkLen (rCons (rKin 0 a (b 3)) (rCons (rKin 0 a (b 4)) (rCons (rKin 0 a (b 5)) rNil))))))) (rSeq (rSetF 1 (rBin addQ (rVar 1) (rUp (chkLen (rCons (rKin 0 a (b 6)) (rCons (rKin 0 a (b 7)) (rCons (rKin 0 a (b 8)) rNil))))))) (rSeq (rSetF 1 (rBin addQ (rVar 1) (rUp (chkLen (rCons (rKin 0 a (b 9)) (rCons (rKin 0 a (b 10)) (rCons (rKin 0 a (b 11)) rNil))))))) (rSeq (rSetF 1 (rBin addQ (rVar 1) (rUp (chkLen (rCons (rKin 0 a (b 12)) (rCons (rKin 0 a (b 13)) (rCons (rKin 0 a (b 14)) rNil))))))) (rSeq (rSetF 2 (rC (.str "row look lot goal stand kind plan seen index impossible unlike undo many text +"))) (rRet (rM1 joinD (rC (.str " ")) (rUp (rLc (rCl zipDZ (rCons (rUp (rM1 splitD (rVar 2) (rC (.str " ")))) (rCons (rVar 1) rNil))) [3, 4] (gT (gsCons (gN 3) (gsCons (gN 4) gsNil))) (rB (rVar 4)) (rVar 3)))))))))))
def kinL : List Str := ["InvalidRow", "InvalidLook", "InvalidLot", "InvalidGoal", "InvalidStand", "InvalidKind", "InvalidPlan", "InvalidSeen", "InvalidIndex", "Impossible", "Unlike", "NothingToUndo", "TooMany", "InvalidText"]
theorem d__law_kin (Tp : Top K mg) {p : Addr × Obj} {D0 : Addr} (C : ExcC K D0) (hz : Zc (.ref D0) none p.2) (hf : ∃ vs, p.2.data = .fields vs) (b : Nat → Bool)
    (hb : ∀ (j : Nat) {c : Str}, kinL[j]? = some c → ∃ Cc, mg c = some (.ref Cc) ∧ PySem.W.kitOne K (.ref D0) (.ref Cc) = some (b j)) (hV : PySem.W.kitOne K (.ref D0) (.type "ValueError") = some (b 14)) (txt : Str)
    (hev : ∀ S, resOf (r__law_kin p.1 b (env0 (N__law_kin).length [.adr p.1]) S) = .ok (.str txt) S) :
    ∃ f fd, FnP p P w K mg base (L2N.CX P w) 1 f fd ["e"] (spF ⟨K, mg, T⟩ 1 (kinF p.1 txt)) ∧ mg "_law_kin" = some (.ref f) ∧ PySem.W.keepIn K (.ref f) = true ∧ Binds K fd ["e"] [] := by
  obtain ⟨f, fd, G, hm⟩ := Tp.fn 26 rfl
  have nd : (N__law_kin).Nodup := by decide +kernel
  refine ⟨f, fd, fn_mkP (N := N__law_kin) (ps := ["e"]) G ⟨rfl, rfl, rfl, nd, rfl, by decide +kernel, by decide +kernel⟩ (r__law_kin p.1 b) (fun cdv A outer s H E F hF hot hr => ?_) (fun ds S hl hn => ?_) (fun ds S x S' => ?_), hm, G.kp, G.binds (fun _ _ _ _ _ _ us hl => match us, hl with | [_], _ => rfl)⟩
  · have hcr : CallR (L2H.cxH (L2N.CX P w) P w K mg base N__law_kin "_law_kin" (defScope (topS 50)) f cdv A outer s H E p) (.builtin "isinstance") (rIsE K D0 p.1) := call_isP C hz hf
    have hotX : L2H.HotC (L2H.cxH (L2N.CX P w) P w K mg base N__law_kin "_law_kin" (defScope (topS 50)) f cdv A outer s H E p) := ⟨p, ⟨hot.1, hot.2⟩, List.mem_cons_self⟩
    exact (vs_cons (qsetF 1 nd (vf_of_vo (ve_lst (va_cons (ve_isE hcr (hb 0 rfl).choose_spec.1 (hb 0 rfl).choose_spec.2 (Tp.fr 0 rfl)) (va_cons (ve_isE hcr (hb 1 rfl).choose_spec.1 (hb 1 rfl).choose_spec.2 (Tp.fr 0 rfl)) (va_cons (ve_isE hcr (hb 2 rfl).choose_spec.1 (hb 2 rfl).choose_spec.2 (Tp.fr 0 rfl)) va_nil)))))) (vs_cons (qsetF 1 nd (vf_of_vq (ve_binQ vop_addQ mon_X mon_X anti_Q (vx_of_vf (qv 1)) (vx_of_vo (ve_lst (va_cons (ve_isE hcr (hb 3 rfl).choose_spec.1 (hb 3 rfl).choose_spec.2 (Tp.fr 0 rfl)) (va_cons (ve_isE hcr (hb 4 rfl).choose_spec.1 (hb 4 rfl).choose_spec.2 (Tp.fr 0 rfl)) (va_cons (ve_isE hcr (hb 5 rfl).choose_spec.1 (hb 5 rfl).choose_spec.2 (Tp.fr 0 rfl)) va_nil)))))))) (vs_cons (qsetF 1 nd (vf_of_vq (ve_binQ vop_addQ mon_X mon_X anti_Q (vx_of_vf (qv 1)) (vx_of_vo (ve_lst (va_cons (ve_isE hcr (hb 6 rfl).choose_spec.1 (hb 6 rfl).choose_spec.2 (Tp.fr 0 rfl)) (va_cons (ve_isE hcr (hb 7 rfl).choose_spec.1 (hb 7 rfl).choose_spec.2 (Tp.fr 0 rfl)) (va_cons (ve_isE hcr (hb 8 rfl).choose_spec.1 (hb 8 rfl).choose_spec.2 (Tp.fr 0 rfl)) va_nil)))))))) (vs_cons (qsetF 1 nd (vf_of_vq (ve_binQ vop_addQ mon_X mon_X anti_Q (vx_of_vf (qv 1)) (vx_of_vo (ve_lst (va_cons (ve_isE hcr (hb 9 rfl).choose_spec.1 (hb 9 rfl).choose_spec.2 (Tp.fr 0 rfl)) (va_cons (ve_isE hcr (hb 10 rfl).choose_spec.1 (hb 10 rfl).choose_spec.2 (Tp.fr 0 rfl)) (va_cons (ve_isE hcr (hb 11 rfl).choose_spec.1 (hb 11 rfl).choose_spec.2 (Tp.fr 0 rfl)) va_nil)))))))) (vs_cons (qsetF 1 nd (vf_of_vq (ve_binQ vop_addQ mon_X mon_X anti_Q (vx_of_vf (qv 1)) (vx_of_vo (ve_lst (va_cons (ve_isE hcr (hb 12 rfl).choose_spec.1 (hb 12 rfl).choose_spec.2 (Tp.fr 0 rfl)) (va_cons (ve_isE hcr (hb 13 rfl).choose_spec.1 (hb 13 rfl).choose_spec.2 (Tp.fr 0 rfl)) (va_cons (ve_isEB (T := "ValueError") hcr (Tp.fr 11 rfl) (by decide +kernel) hV (Tp.fr 0 rfl)) va_nil)))))))) (vs_cons (qsetF 2 nd ve_str) (vs_one (vs_ret (ve_join ve_str (vx_of_vo (ve_lcZ hotX nd (vie_zipZ (vax_cons (vx_of_vo (ve_split (qv 2) ve_str)) (vax_cons (vx_of_vf (qv 1)) vax_nil)) (Tp.fr 7 rfl)) (blkOk_by (own := [("label", 3), ("good", 4)]) (by kernel_rfl)) (fun _ _ _ _ _ hb2 => (vg_tupH hb2 (vgs_cons (qg 3 nd) (vgs_cons (qg 4 nd) vgs_nil)) (glen_cons (glen_cons glen_nil)))) (fun _ _ _ _ _ => (vts_one (vt_val (qv 4)))) (fun _ _ _ _ _ => (qv 3)) (by decide))))))))))))
  · match ds, hl with
    | [d], _ =>
      cases d with
      | adr a =>
        unfold kinF at hn ⊢
        by_cases ha : a = p.1
        · subst ha
          rw [hev]
          simp
        · simp [ha] at hn
      | _ => exact absurd rfl hn
  · unfold kinF
    split
    · split <;> (intro h; cases h)
    · intro h; cases h

-- _law_try: by try_gives
def N__law_a_guest : List Str := ["deck", "many", "size", "found", "mood_so", "kind_so"]
abbrev r__law_a_guest : RS := (rSeq (rParP 2 3 (rPC (rPV (rCall C__law_one (rCons (rVar 0) (rCons (rFz (chkLen (rCons (rC (.int 1)) (rCons (rC (.int 2)) (rCons (rC (.int 2)) (rCons (rC (.int 3)) (rCons (rC (.int 3)) rNil))))))) rNil)))) (rPC (rPO (chkLen rNil)) rPN))) (rSeq (rFzS 3 (rFor (rCl rangeD (rCons (rVar 2) rNil)) (gN 4) (rApp 3 (rCl tupD (rCons (rUp (rLc (rCl rangeD (rCons (rVar 1) rNil)) [5] (gN 5) rYes (rTup (chkLen (rCons (rBin ltI (rCall C__law_pick (rCons (rVar 0) (rCons (rC (.int 5)) rNil))) (rC (.int 2))) (rCons (rCall C__law_pick (rCons (rVar 0) (rCons (rVar 2) rNil))) rNil)))))) rNil))))) (rRet (rCl tupD (rCons (rVar 3) rNil)))))
def C__law_a_guest : List D → Sto → Res D := fun ds S => resOf (r__law_a_guest (env0 (N__law_a_guest).length ds) S)
theorem d__law_a_guest (Tp : Top K mg) : HasFn P w K mg base T "_law_a_guest" 3 2 C__law_a_guest := by
  obtain ⟨f, fd, G, hm⟩ := Tp.fn 28 rfl
  have nd : (N__law_a_guest).Nodup := by decide +kernel
  refine fn_mk (N := N__law_a_guest) (ps := ["deck", "many"]) G ⟨rfl, rfl, rfl, nd, rfl, by decide +kernel, by decide +kernel⟩ hm (G.binds (fun _ _ _ _ _ _ us hl => match us, hl with | [_, _], _ => rfl)) r__law_a_guest (fun cdv A outer s H E F hF hcv hr tk => ?_) fun ds S _ _ => rfl
  have hu := hr.units
  have hu0 := hr.units0
  have hu1 := room65 hr
  exact (vs_cons (vs_asgP (i := 2) (j := 3) rfl nd rfl rfl (by first | exact Or.inl rfl | exact Or.inr rfl) (by first | exact Or.inl rfl | exact Or.inr rfl) (by first | exact Or.inl rfl | exact Or.inr rfl) (by first | exact Or.inl rfl | exact Or.inr rfl) (vpp_v (ve_call (d__law_one Tp) hr tk (lens_cons (lens_cons lens_nil)) (va_cons (qv 0) (va_cons (vf_of_vo (ve_lst (va_cons ve_int (va_cons ve_int (va_cons ve_int (va_cons ve_int (va_cons ve_int va_nil))))))) va_nil))) (vpp_o (ve_lst va_nil) vpp_nil))) (vs_cons (vs_fz 3 (vs_for (passes_of rfl) rfl (vi_range (vax_cons (vx_of_vf (qv 2)) vax_nil) (Tp.fr 8 rfl)) (qg 4 nd) (vs_one (vs_app (i := 3) rfl (by first | exact Or.inl rfl | exact Or.inr (Or.inl rfl)) (ve_callTy cl_tuple anti_F (vax_cons (vx_of_vo (ve_lc rfl nd (vie_of_vi (vi_range (vax_cons (vx_of_vf (qv 1)) vax_nil) (Tp.fr 8 rfl))) (blkOk_by (own := [("kind_so", 5)]) (by kernel_rfl)) (fun _ _ _ _ _ => (qg 5 nd)) (fun _ _ _ _ _ => vts_nil) (fun _ _ _ _ _ => (ve_tup (va_cons (ve_cmp vop_lt mon_F mon_F anti_F (ve_call ((d__law_pick Tp).mono (by decide : 1 ≤ 2)) hr tk0 (lens_cons (lens_cons lens_nil)) (va_cons (qv 0) (va_cons ve_int va_nil))) ve_int (nomark _)) (va_cons (ve_call ((d__law_pick Tp).mono (by decide : 1 ≤ 2)) hr tk0 (lens_cons (lens_cons lens_nil)) (va_cons (qv 0) (va_cons (qv 2) va_nil))) va_nil)))) (by decide))) vax_nil) (Tp.fr 3 rfl) (by decide +kernel)))))) (vs_one (vs_ret (ve_callTy cl_tuple anti_F (vax_cons (vx_of_vf (qv 3)) vax_nil) (Tp.fr 3 rfl) (by decide +kernel))))))
theorem u__law_a_guest (x0 x1 : D) (S : Sto) : C__law_a_guest [x0, x1] S = resOf ((rSeq (rParP 2 3 (rPC (rPV (rCall C__law_one (rCons (rVar 0) (rCons (rFz (chkLen (rCons (rC (.int 1)) (rCons (rC (.int 2)) (rCons (rC (.int 2)) (rCons (rC (.int 3)) (rCons (rC (.int 3)) rNil))))))) rNil)))) (rPC (rPO (chkLen rNil)) rPN))) (rSeq (rFzS 3 (rFor (rCl rangeD (rCons (rVar 2) rNil)) (gN 4) (rApp 3 (rCl tupD (rCons (rUp (rLc (rCl rangeD (rCons (rVar 1) rNil)) [5] (gN 5) rYes (rTup (chkLen (rCons (rBin ltI (rCall C__law_pick (rCons (rVar 0) (rCons (rC (.int 5)) rNil))) (rC (.int 2))) (rCons (rCall C__law_pick (rCons (rVar 0) (rCons (rVar 2) rNil))) rNil)))))) rNil))))) (rRet (rCl tupD (rCons (rVar 3) rNil))))) [.val x0, .val x1, .un, .un, .un, .un] S) := rfl
def q0__law_a_guest : VS.Env → Sto → Res D := (rTup (chkLen (rCons (rBin ltI (rCall C__law_pick (rCons (rVar 0) (rCons (rC (.int 5)) rNil))) (rC (.int 2))) (rCons (rCall C__law_pick (rCons (rVar 0) (rCons (rVar 2) rNil))) rNil))))
def q1__law_a_guest : RS := (rApp 3 (rCl tupD (rCons (rUp (rLc (rCl rangeD (rCons (rVar 1) rNil)) [5] (gN 5) rYes q0__law_a_guest)) rNil)))
def q2__law_a_guest : RS := (rSeq (rFzS 3 (rFor (rCl rangeD (rCons (rVar 2) rNil)) (gN 4) q1__law_a_guest)) (rRet (rCl tupD (rCons (rVar 3) rNil))))
def q3__law_a_guest : RS := (rSeq (rParP 2 3 (rPC (rPV (rCall C__law_one (rCons (rVar 0) (rCons (rFz (chkLen (rCons (rC (.int 1)) (rCons (rC (.int 2)) (rCons (rC (.int 2)) (rCons (rC (.int 3)) (rCons (rC (.int 3)) rNil))))))) rNil)))) (rPC (rPO (chkLen rNil)) rPN))) q2__law_a_guest)
theorem v__law_a_guest (x0 x1 : D) (S : Sto) : C__law_a_guest [x0, x1] S = resOf (q3__law_a_guest [.val x0, .val x1, .un, .un, .un, .un] S) := rfl

def N__law_a_row : List Str := ["deck", "many", "first"]
abbrev r__law_a_row : RS := (rSeq (rSetF 1 (rBin addD (rC (.int 1)) (rCall C__law_pick (rCons (rVar 0) (rCons (rC (.int 3)) rNil))))) (rSeq (rSetF 2 (rCall C__law_a_guest (rCons (rVar 0) (rCons (rVar 1) rNil)))) (rSeq (rIfS (rB (rBin eqD (rCall C__law_pick (rCons (rVar 0) (rCons (rC (.int 3)) rNil))) (rC (.int 0)))) (rRet (rTup (chkLen (rCons (rVar 1) (rCons (rTup (chkLen (rCons (rVar 2) rNil))) rNil))))) rNext) (rRet (rTup (chkLen (rCons (rVar 1) (rCons (rTup (chkLen (rCons (rVar 2) (rCons (rIf (rB (rBin eqD (rCall C__law_pick (rCons (rVar 0) (rCons (rC (.int 5)) rNil))) (rC (.int 0)))) (rVar 2) (rCall C__law_a_guest (rCons (rVar 0) (rCons (rVar 1) rNil)))) rNil)))) rNil))))))))
def C__law_a_row : List D → Sto → Res D := fun ds S => resOf (r__law_a_row (env0 (N__law_a_row).length ds) S)
theorem d__law_a_row (Tp : Top K mg) : HasFn P w K mg base T "_law_a_row" 4 1 C__law_a_row := by
  obtain ⟨f, fd, G, hm⟩ := Tp.fn 29 rfl
  have nd : (N__law_a_row).Nodup := by decide +kernel
  refine fn_mk (N := N__law_a_row) (ps := ["deck"]) G ⟨rfl, rfl, rfl, nd, rfl, by decide +kernel, by decide +kernel⟩ hm (G.binds (fun _ _ _ _ _ _ us hl => match us, hl with | [_], _ => rfl)) r__law_a_row (fun cdv A outer s H E F hF hcv hr tk => ?_) fun ds S _ _ => rfl
  have hu := hr.units
  have hu0 := hr.units0
  have hu1 := room65 hr
  exact (vs_cons (qsetF 1 nd (ve_bin vop_add mon_F mon_F anti_F ve_int (ve_call ((d__law_pick Tp).mono (by decide : 1 ≤ 3)) hr tk (lens_cons (lens_cons lens_nil)) (va_cons (qv 0) (va_cons ve_int va_nil))))) (vs_cons (qsetF 2 nd (ve_call (d__law_a_guest Tp) hr tk (lens_cons (lens_cons lens_nil)) (va_cons (qv 0) (va_cons (qv 1) va_nil)))) (vs_cons (vs_if (vt_cmp (vop_eq hu) mon_X mon_X (vx_of_vf (ve_call ((d__law_pick Tp).mono (by decide : 1 ≤ 3)) hr tk (lens_cons (lens_cons lens_nil)) (va_cons (qv 0) (va_cons ve_int va_nil)))) (vx_of_vf ve_int) (nomark _)) (vs_one (vs_ret (ve_tup (va_cons (qv 1) (va_cons (ve_tup (va_cons (qv 2) va_nil)) va_nil))))) vs_nil) (vs_one (vs_ret (ve_tup (va_cons (qv 1) (va_cons (ve_tup (va_cons (qv 2) (va_cons (ve_if anti_F (vt_cmp (vop_eq hu) mon_X mon_X (vx_of_vf (ve_call ((d__law_pick Tp).mono (by decide : 1 ≤ 3)) hr tk (lens_cons (lens_cons lens_nil)) (va_cons (qv 0) (va_cons ve_int va_nil)))) (vx_of_vf ve_int) (nomark _)) (qv 2) (ve_call (d__law_a_guest Tp) hr tk (lens_cons (lens_cons lens_nil)) (va_cons (qv 0) (va_cons (qv 1) va_nil)))) va_nil))) va_nil))))))))
theorem u__law_a_row (x0 : D) (S : Sto) : C__law_a_row [x0] S = resOf ((rSeq (rSetF 1 (rBin addD (rC (.int 1)) (rCall C__law_pick (rCons (rVar 0) (rCons (rC (.int 3)) rNil))))) (rSeq (rSetF 2 (rCall C__law_a_guest (rCons (rVar 0) (rCons (rVar 1) rNil)))) (rSeq (rIfS (rB (rBin eqD (rCall C__law_pick (rCons (rVar 0) (rCons (rC (.int 3)) rNil))) (rC (.int 0)))) (rRet (rTup (chkLen (rCons (rVar 1) (rCons (rTup (chkLen (rCons (rVar 2) rNil))) rNil))))) rNext) (rRet (rTup (chkLen (rCons (rVar 1) (rCons (rTup (chkLen (rCons (rVar 2) (rCons (rIf (rB (rBin eqD (rCall C__law_pick (rCons (rVar 0) (rCons (rC (.int 5)) rNil))) (rC (.int 0)))) (rVar 2) (rCall C__law_a_guest (rCons (rVar 0) (rCons (rVar 1) rNil)))) rNil)))) rNil)))))))) [.val x0, .un, .un] S) := rfl
def q0__law_a_row : RS := (rSeq (rIfS (rB (rBin eqD (rCall C__law_pick (rCons (rVar 0) (rCons (rC (.int 3)) rNil))) (rC (.int 0)))) (rRet (rTup (chkLen (rCons (rVar 1) (rCons (rTup (chkLen (rCons (rVar 2) rNil))) rNil))))) rNext) (rRet (rTup (chkLen (rCons (rVar 1) (rCons (rTup (chkLen (rCons (rVar 2) (rCons (rIf (rB (rBin eqD (rCall C__law_pick (rCons (rVar 0) (rCons (rC (.int 5)) rNil))) (rC (.int 0)))) (rVar 2) (rCall C__law_a_guest (rCons (rVar 0) (rCons (rVar 1) rNil)))) rNil)))) rNil))))))
def q1__law_a_row : RS := (rSeq (rSetF 2 (rCall C__law_a_guest (rCons (rVar 0) (rCons (rVar 1) rNil)))) q0__law_a_row)
def q2__law_a_row : RS := (rSeq (rSetF 1 (rBin addD (rC (.int 1)) (rCall C__law_pick (rCons (rVar 0) (rCons (rC (.int 3)) rNil))))) q1__law_a_row)
theorem v__law_a_row (x0 : D) (S : Sto) : C__law_a_row [x0] S = resOf (q2__law_a_row [.val x0, .un, .un] S) := rfl

def N__law_every : List Str := ["row_so", "found", "guest_so", "later", "stand_so", "mood_so"]
abbrev r__law_every : RS := (rSeq (rSetF 1 (rFz (chkLen (rCons (rTup (chkLen rNil)) rNil)))) (rSeq (rFor (rItems (rBin ixD (rVar 0) (rC (.int 1)))) (gN 2) (rSeq (rSetF 3 (rFz (chkLen rNil))) (rSeq (rFor (rItems (rVar 1)) (gN 4) (rSetF 3 (rBin addQ (rVar 3) (rUp (rLc (rCl rangeD (rCons (rCl lenD (rCons (rVar 2) rNil)) rNil)) [5] (gN 5) rYes (rBin addD (rVar 4) (rTup (chkLen (rCons (rVar 5) rNil))))))))) (rSetF 1 (rVar 3))))) (rRet (rVar 1))))
def C__law_every : List D → Sto → Res D := fun ds S => resOf (r__law_every (env0 (N__law_every).length ds) S)
theorem d__law_every (Tp : Top K mg) : HasFn P w K mg base T "_law_every" 1 1 C__law_every := by
  obtain ⟨f, fd, G, hm⟩ := Tp.fn 30 rfl
  have nd : (N__law_every).Nodup := by decide +kernel
  refine fn_mk (N := N__law_every) (ps := ["row_so"]) G ⟨rfl, rfl, rfl, nd, rfl, by decide +kernel, by decide +kernel⟩ hm (G.binds (fun _ _ _ _ _ _ us hl => match us, hl with | [_], _ => rfl)) r__law_every (fun cdv A outer s H E F hF hcv hr tk => ?_) fun ds S _ _ => rfl
  have hu := hr.units
  have hu0 := hr.units0
  have hu1 := room65 hr
  exact (vs_cons (qsetF 1 nd (vf_of_vo (ve_lst (va_cons (ve_tup va_nil) va_nil)))) (vs_cons (vs_for (passes_of rfl) rfl (vi_seq (ve_ix (vx_of_vf (qv 0)) ve_int)) (qg 2 nd) (vs_cons (qsetF 3 nd (vf_of_vo (ve_lst va_nil))) (vs_cons (vs_for (passes_of rfl) rfl (vi_seq (qv 1)) (qg 4 nd) (vs_one (qsetF 3 nd (vf_of_vq (ve_binQ vop_addQ mon_X mon_X anti_Q (vx_of_vf (qv 3)) (vx_of_vo (ve_lc rfl nd (vie_of_vi (vi_range (vax_cons (vx_of_vf (ve_callB cl_len anti_F (vax_cons (vx_of_vf (qv 2)) vax_nil) (Tp.fr 4 rfl) (by decide +kernel))) vax_nil) (Tp.fr 8 rfl))) (blkOk_by (own := [("mood_so", 5)]) (by kernel_rfl)) (fun _ _ _ _ _ => (qg 5 nd)) (fun _ _ _ _ _ => vts_nil) (fun _ _ _ _ _ => (ve_bin vop_add mon_F mon_F anti_F (qv 4) (ve_tup (va_cons (qv 5) va_nil)))) (by decide)))))))) (vs_one (qsetF 1 nd (qv 3)))))) (vs_one (vs_ret (qv 1)))))
theorem u__law_every (x0 : D) (S : Sto) : C__law_every [x0] S = resOf ((rSeq (rSetF 1 (rFz (chkLen (rCons (rTup (chkLen rNil)) rNil)))) (rSeq (rFor (rItems (rBin ixD (rVar 0) (rC (.int 1)))) (gN 2) (rSeq (rSetF 3 (rFz (chkLen rNil))) (rSeq (rFor (rItems (rVar 1)) (gN 4) (rSetF 3 (rBin addQ (rVar 3) (rUp (rLc (rCl rangeD (rCons (rCl lenD (rCons (rVar 2) rNil)) rNil)) [5] (gN 5) rYes (rBin addD (rVar 4) (rTup (chkLen (rCons (rVar 5) rNil))))))))) (rSetF 1 (rVar 3))))) (rRet (rVar 1)))) [.val x0, .un, .un, .un, .un, .un] S) := rfl
def q0__law_every : RS := (rSetF 3 (rBin addQ (rVar 3) (rUp (rLc (rCl rangeD (rCons (rCl lenD (rCons (rVar 2) rNil)) rNil)) [5] (gN 5) rYes (rBin addD (rVar 4) (rTup (chkLen (rCons (rVar 5) rNil))))))))
def q1__law_every : RS := (rSeq (rFor (rItems (rVar 1)) (gN 4) q0__law_every) (rSetF 1 (rVar 3)))
def q2__law_every : RS := (rSeq (rSetF 3 (rFz (chkLen rNil))) q1__law_every)
def q3__law_every : RS := (rSeq (rFor (rItems (rBin ixD (rVar 0) (rC (.int 1)))) (gN 2) q2__law_every) (rRet (rVar 1)))
def q4__law_every : RS := (rSeq (rSetF 1 (rFz (chkLen (rCons (rTup (chkLen rNil)) rNil)))) q3__law_every)
theorem v__law_every (x0 : D) (S : Sto) : C__law_every [x0] S = resOf (q4__law_every [.val x0, .un, .un, .un, .un, .un] S) := rfl

def N__law_a_lot : List Str := ["deck", "row_so", "every", "sure", "one"]
abbrev r__law_a_lot : RS := (rSeq (rSetF 2 (rCall C__law_every (rCons (rVar 1) rNil))) (rSeq (rIfS (rB (rBin eqD (rCall C__law_pick (rCons (rVar 0) (rCons (rC (.int 3)) rNil))) (rC (.int 0)))) (rRet (rCl tupD (rCons (rVar 2) rNil))) rNext) (rSeq (rSetF 3 (rCall C__law_one (rCons (rVar 0) (rCons (rVar 2) rNil)))) (rRet (rCl tupD (rCons (rUp (rLc (rItems (rVar 2)) [4] (gN 4) (rOr (rB (rBin eqD (rVar 4) (rVar 3))) (rB (rBin eqD (rCall C__law_pick (rCons (rVar 0) (rCons (rC (.int 2)) rNil))) (rC (.int 0))))) (rVar 4))) rNil))))))
def C__law_a_lot : List D → Sto → Res D := fun ds S => resOf (r__law_a_lot (env0 (N__law_a_lot).length ds) S)
theorem d__law_a_lot (Tp : Top K mg) : HasFn P w K mg base T "_law_a_lot" 3 2 C__law_a_lot := by
  obtain ⟨f, fd, G, hm⟩ := Tp.fn 31 rfl
  have nd : (N__law_a_lot).Nodup := by decide +kernel
  refine fn_mk (N := N__law_a_lot) (ps := ["deck", "row_so"]) G ⟨rfl, rfl, rfl, nd, rfl, by decide +kernel, by decide +kernel⟩ hm (G.binds (fun _ _ _ _ _ _ us hl => match us, hl with | [_, _], _ => rfl)) r__law_a_lot (fun cdv A outer s H E F hF hcv hr tk => ?_) fun ds S _ _ => rfl
  have hu := hr.units
  have hu0 := hr.units0
  have hu1 := room65 hr
  exact (vs_cons (qsetF 2 nd (ve_call ((d__law_every Tp).mono (by decide : 1 ≤ 2)) hr tk (lens_cons lens_nil) (va_cons (qv 1) va_nil))) (vs_cons (vs_if (vt_cmp (vop_eq hu) mon_X mon_X (vx_of_vf (ve_call ((d__law_pick Tp).mono (by decide : 1 ≤ 2)) hr tk (lens_cons (lens_cons lens_nil)) (va_cons (qv 0) (va_cons ve_int va_nil)))) (vx_of_vf ve_int) (nomark _)) (vs_one (vs_ret (ve_callTy cl_tuple anti_F (vax_cons (vx_of_vf (qv 2)) vax_nil) (Tp.fr 3 rfl) (by decide +kernel)))) vs_nil) (vs_cons (qsetF 3 nd (ve_call (d__law_one Tp) hr tk (lens_cons (lens_cons lens_nil)) (va_cons (qv 0) (va_cons (qv 2) va_nil)))) (vs_one (vs_ret (ve_callTy cl_tuple anti_F (vax_cons (vx_of_vo (ve_lc rfl nd (vie_seq (vx_of_vf (qv 2))) (blkOk_by (own := [("one", 4)]) (by kernel_rfl)) (fun _ _ _ _ _ => (qg 4 nd)) (fun _ _ _ _ _ => (vts_one (vt_w (vw_or (vt_cmp (vop_eq hu) mon_X mon_X (vx_of_vf (qv 4)) (vx_of_vf (qv 3)) (nomark _)) (vw_or1 (vt_cmp (vop_eq hu) mon_X mon_X (vx_of_vf (ve_call ((d__law_pick Tp).mono (by decide : 1 ≤ 2)) hr tk0 (lens_cons (lens_cons lens_nil)) (va_cons (qv 0) (va_cons ve_int va_nil)))) (vx_of_vf ve_int) (nomark _))))))) (fun _ _ _ _ _ => (qv 4)) (by decide))) vax_nil) (Tp.fr 3 rfl) (by decide +kernel)))))))
theorem u__law_a_lot (x0 x1 : D) (S : Sto) : C__law_a_lot [x0, x1] S = resOf ((rSeq (rSetF 2 (rCall C__law_every (rCons (rVar 1) rNil))) (rSeq (rIfS (rB (rBin eqD (rCall C__law_pick (rCons (rVar 0) (rCons (rC (.int 3)) rNil))) (rC (.int 0)))) (rRet (rCl tupD (rCons (rVar 2) rNil))) rNext) (rSeq (rSetF 3 (rCall C__law_one (rCons (rVar 0) (rCons (rVar 2) rNil)))) (rRet (rCl tupD (rCons (rUp (rLc (rItems (rVar 2)) [4] (gN 4) (rOr (rB (rBin eqD (rVar 4) (rVar 3))) (rB (rBin eqD (rCall C__law_pick (rCons (rVar 0) (rCons (rC (.int 2)) rNil))) (rC (.int 0))))) (rVar 4))) rNil)))))) [.val x0, .val x1, .un, .un, .un] S) := rfl
def q0__law_a_lot : RS := (rSeq (rSetF 3 (rCall C__law_one (rCons (rVar 0) (rCons (rVar 2) rNil)))) (rRet (rCl tupD (rCons (rUp (rLc (rItems (rVar 2)) [4] (gN 4) (rOr (rB (rBin eqD (rVar 4) (rVar 3))) (rB (rBin eqD (rCall C__law_pick (rCons (rVar 0) (rCons (rC (.int 2)) rNil))) (rC (.int 0))))) (rVar 4))) rNil))))
def q1__law_a_lot : RS := (rSeq (rIfS (rB (rBin eqD (rCall C__law_pick (rCons (rVar 0) (rCons (rC (.int 3)) rNil))) (rC (.int 0)))) (rRet (rCl tupD (rCons (rVar 2) rNil))) rNext) q0__law_a_lot)
def q2__law_a_lot : RS := (rSeq (rSetF 2 (rCall C__law_every (rCons (rVar 1) rNil))) q1__law_a_lot)
theorem v__law_a_lot (x0 x1 : D) (S : Sto) : C__law_a_lot [x0, x1] S = resOf (q2__law_a_lot [.val x0, .val x1, .un, .un, .un] S) := rfl

def N__law_known : List Str := ["one", "two", "few", "all_so"]
abbrev r__law_known : RS := (rSeq (rAsg (gT (gsCons (gN 0) (gsCons (gN 1) gsNil))) (rTup (chkLen (rCons (rTup (chkLen (rCons (rTup (chkLen (rCons (rTup (chkLen (rCons (rC (.bl true)) (rCons (rC (.int 1)) rNil)))) (rCons (rTup (chkLen (rCons (rC (.bl false)) (rCons (rC (.int 0)) rNil)))) rNil)))) (rCons (rTup (chkLen (rCons (rTup (chkLen (rCons (rC (.bl false)) (rCons (rC (.int 0)) rNil)))) (rCons (rTup (chkLen (rCons (rC (.bl false)) (rCons (rC (.int 1)) rNil)))) rNil)))) rNil)))) (rCons (rTup (chkLen (rCons (rTup (chkLen (rCons (rTup (chkLen (rCons (rC (.bl false)) (rCons (rC (.int 0)) rNil)))) (rCons (rTup (chkLen (rCons (rC (.bl false)) (rCons (rC (.int 1)) rNil)))) rNil)))) (rCons (rTup (chkLen (rCons (rTup (chkLen (rCons (rC (.bl false)) (rCons (rC (.int 0)) rNil)))) (rCons (rTup (chkLen (rCons (rC (.bl true)) (rCons (rC (.int 1)) rNil)))) rNil)))) rNil)))) rNil))))) (rSeq (rAsg (gT (gsCons (gN 2) (gsCons (gN 3) gsNil))) (rTup (chkLen (rCons (rTup (chkLen (rCons (rTup (chkLen (rCons (rC (.int 0)) rNil))) (rCons (rTup (chkLen (rCons (rC (.int 1)) rNil))) rNil)))) (rCons (rTup (chkLen (rCons (rTup (chkLen (rCons (rC (.int 0)) (rCons (rC (.int 0)) rNil)))) (rCons (rTup (chkLen (rCons (rC (.int 0)) (rCons (rC (.int 1)) rNil)))) (rCons (rTup (chkLen (rCons (rC (.int 1)) (rCons (rC (.int 0)) rNil)))) (rCons (rTup (chkLen (rCons (rC (.int 1)) (rCons (rC (.int 1)) rNil)))) rNil)))))) rNil))))) (rRet (rTup (chkLen (rCons (rTup (chkLen (rCons (rC (.int 2)) (rCons (rTup (chkLen (rCons (rVar 0) rNil))) rNil)))) (rCons (rTup (chkLen (rCons (rC (.int 2)) (rCons (rTup (chkLen (rCons (rVar 1) rNil))) rNil)))) (rCons (rTup (chkLen (rCons (rC (.int 2)) (rCons (rTup (chkLen (rCons (rVar 0) (rCons (rVar 0) rNil)))) rNil)))) (rCons (rVar 2) (rCons (rVar 3) rNil))))))))))
def C__law_known : List D → Sto → Res D := fun ds S => resOf (r__law_known (env0 (N__law_known).length ds) S)
theorem d__law_known (Tp : Top K mg) : HasFn P w K mg base T "_law_known" 1 0 C__law_known := by
  obtain ⟨f, fd, G, hm⟩ := Tp.fn 32 rfl
  have nd : (N__law_known).Nodup := by decide +kernel
  refine fn_mk (N := N__law_known) (ps := []) G ⟨rfl, rfl, rfl, nd, rfl, by decide +kernel, by decide +kernel⟩ hm (G.binds (fun _ _ _ _ _ _ us hl => match us, hl with | [], _ => rfl)) r__law_known (fun cdv A outer s H E F hF hcv hr tk => ?_) fun ds S _ _ => rfl
  have hu := hr.units
  have hu0 := hr.units0
  have hu1 := room65 hr
  exact (vs_cons (vs_asg (ve_tup (va_cons (ve_tup (va_cons (ve_tup (va_cons (ve_tup (va_cons ve_bl (va_cons ve_int va_nil))) (va_cons (ve_tup (va_cons ve_bl (va_cons ve_int va_nil))) va_nil))) (va_cons (ve_tup (va_cons (ve_tup (va_cons ve_bl (va_cons ve_int va_nil))) (va_cons (ve_tup (va_cons ve_bl (va_cons ve_int va_nil))) va_nil))) va_nil))) (va_cons (ve_tup (va_cons (ve_tup (va_cons (ve_tup (va_cons ve_bl (va_cons ve_int va_nil))) (va_cons (ve_tup (va_cons ve_bl (va_cons ve_int va_nil))) va_nil))) (va_cons (ve_tup (va_cons (ve_tup (va_cons ve_bl (va_cons ve_int va_nil))) (va_cons (ve_tup (va_cons ve_bl (va_cons ve_int va_nil))) va_nil))) va_nil))) va_nil))) (vg_tup rfl (vgs_cons (qg 0 nd) (vgs_cons (qg 1 nd) vgs_nil)) (glen_cons (glen_cons glen_nil)))) (vs_cons (vs_asg (ve_tup (va_cons (ve_tup (va_cons (ve_tup (va_cons ve_int va_nil)) (va_cons (ve_tup (va_cons ve_int va_nil)) va_nil))) (va_cons (ve_tup (va_cons (ve_tup (va_cons ve_int (va_cons ve_int va_nil))) (va_cons (ve_tup (va_cons ve_int (va_cons ve_int va_nil))) (va_cons (ve_tup (va_cons ve_int (va_cons ve_int va_nil))) (va_cons (ve_tup (va_cons ve_int (va_cons ve_int va_nil))) va_nil))))) va_nil))) (vg_tup rfl (vgs_cons (qg 2 nd) (vgs_cons (qg 3 nd) vgs_nil)) (glen_cons (glen_cons glen_nil)))) (vs_one (vs_ret (ve_tup (va_cons (ve_tup (va_cons ve_int (va_cons (ve_tup (va_cons (qv 0) va_nil)) va_nil))) (va_cons (ve_tup (va_cons ve_int (va_cons (ve_tup (va_cons (qv 1) va_nil)) va_nil))) (va_cons (ve_tup (va_cons ve_int (va_cons (ve_tup (va_cons (qv 0) (va_cons (qv 0) va_nil))) va_nil))) (va_cons (qv 2) (va_cons (qv 3) va_nil))))))))))
theorem u__law_known (S : Sto) : C__law_known [] S = resOf ((rSeq (rAsg (gT (gsCons (gN 0) (gsCons (gN 1) gsNil))) (rTup (chkLen (rCons (rTup (chkLen (rCons (rTup (chkLen (rCons (rTup (chkLen (rCons (rC (.bl true)) (rCons (rC (.int 1)) rNil)))) (rCons (rTup (chkLen (rCons (rC (.bl false)) (rCons (rC (.int 0)) rNil)))) rNil)))) (rCons (rTup (chkLen (rCons (rTup (chkLen (rCons (rC (.bl false)) (rCons (rC (.int 0)) rNil)))) (rCons (rTup (chkLen (rCons (rC (.bl false)) (rCons (rC (.int 1)) rNil)))) rNil)))) rNil)))) (rCons (rTup (chkLen (rCons (rTup (chkLen (rCons (rTup (chkLen (rCons (rC (.bl false)) (rCons (rC (.int 0)) rNil)))) (rCons (rTup (chkLen (rCons (rC (.bl false)) (rCons (rC (.int 1)) rNil)))) rNil)))) (rCons (rTup (chkLen (rCons (rTup (chkLen (rCons (rC (.bl false)) (rCons (rC (.int 0)) rNil)))) (rCons (rTup (chkLen (rCons (rC (.bl true)) (rCons (rC (.int 1)) rNil)))) rNil)))) rNil)))) rNil))))) (rSeq (rAsg (gT (gsCons (gN 2) (gsCons (gN 3) gsNil))) (rTup (chkLen (rCons (rTup (chkLen (rCons (rTup (chkLen (rCons (rC (.int 0)) rNil))) (rCons (rTup (chkLen (rCons (rC (.int 1)) rNil))) rNil)))) (rCons (rTup (chkLen (rCons (rTup (chkLen (rCons (rC (.int 0)) (rCons (rC (.int 0)) rNil)))) (rCons (rTup (chkLen (rCons (rC (.int 0)) (rCons (rC (.int 1)) rNil)))) (rCons (rTup (chkLen (rCons (rC (.int 1)) (rCons (rC (.int 0)) rNil)))) (rCons (rTup (chkLen (rCons (rC (.int 1)) (rCons (rC (.int 1)) rNil)))) rNil)))))) rNil))))) (rRet (rTup (chkLen (rCons (rTup (chkLen (rCons (rC (.int 2)) (rCons (rTup (chkLen (rCons (rVar 0) rNil))) rNil)))) (rCons (rTup (chkLen (rCons (rC (.int 2)) (rCons (rTup (chkLen (rCons (rVar 1) rNil))) rNil)))) (rCons (rTup (chkLen (rCons (rC (.int 2)) (rCons (rTup (chkLen (rCons (rVar 0) (rCons (rVar 0) rNil)))) rNil)))) (rCons (rVar 2) (rCons (rVar 3) rNil)))))))))) [.un, .un, .un, .un] S) := rfl
def q0__law_known : RS := (rSeq (rAsg (gT (gsCons (gN 2) (gsCons (gN 3) gsNil))) (rTup (chkLen (rCons (rTup (chkLen (rCons (rTup (chkLen (rCons (rC (.int 0)) rNil))) (rCons (rTup (chkLen (rCons (rC (.int 1)) rNil))) rNil)))) (rCons (rTup (chkLen (rCons (rTup (chkLen (rCons (rC (.int 0)) (rCons (rC (.int 0)) rNil)))) (rCons (rTup (chkLen (rCons (rC (.int 0)) (rCons (rC (.int 1)) rNil)))) (rCons (rTup (chkLen (rCons (rC (.int 1)) (rCons (rC (.int 0)) rNil)))) (rCons (rTup (chkLen (rCons (rC (.int 1)) (rCons (rC (.int 1)) rNil)))) rNil)))))) rNil))))) (rRet (rTup (chkLen (rCons (rTup (chkLen (rCons (rC (.int 2)) (rCons (rTup (chkLen (rCons (rVar 0) rNil))) rNil)))) (rCons (rTup (chkLen (rCons (rC (.int 2)) (rCons (rTup (chkLen (rCons (rVar 1) rNil))) rNil)))) (rCons (rTup (chkLen (rCons (rC (.int 2)) (rCons (rTup (chkLen (rCons (rVar 0) (rCons (rVar 0) rNil)))) rNil)))) (rCons (rVar 2) (rCons (rVar 3) rNil)))))))))
def q1__law_known : RS := (rSeq (rAsg (gT (gsCons (gN 0) (gsCons (gN 1) gsNil))) (rTup (chkLen (rCons (rTup (chkLen (rCons (rTup (chkLen (rCons (rTup (chkLen (rCons (rC (.bl true)) (rCons (rC (.int 1)) rNil)))) (rCons (rTup (chkLen (rCons (rC (.bl false)) (rCons (rC (.int 0)) rNil)))) rNil)))) (rCons (rTup (chkLen (rCons (rTup (chkLen (rCons (rC (.bl false)) (rCons (rC (.int 0)) rNil)))) (rCons (rTup (chkLen (rCons (rC (.bl false)) (rCons (rC (.int 1)) rNil)))) rNil)))) rNil)))) (rCons (rTup (chkLen (rCons (rTup (chkLen (rCons (rTup (chkLen (rCons (rC (.bl false)) (rCons (rC (.int 0)) rNil)))) (rCons (rTup (chkLen (rCons (rC (.bl false)) (rCons (rC (.int 1)) rNil)))) rNil)))) (rCons (rTup (chkLen (rCons (rTup (chkLen (rCons (rC (.bl false)) (rCons (rC (.int 0)) rNil)))) (rCons (rTup (chkLen (rCons (rC (.bl true)) (rCons (rC (.int 1)) rNil)))) rNil)))) rNil)))) rNil))))) q0__law_known)
theorem v__law_known (S : Sto) : C__law_known [] S = resOf (q1__law_known [.un, .un, .un, .un] S) := rfl

def N__law_writing : List Str := ["row_so", "way_so", "lot_so", "lines", "guest_so", "line", "mood_so", "stand_so", "takes", "then"]
abbrev r__law_writing : RS := (rSeq (rSetO 3 (chkLen (rCons (rBin addD (rC (.str "kinds ")) (rCl strD (rCons (rBin ixD (rVar 0) (rC (.int 0))) rNil))) rNil))) (rSeq (rFor (rItems (rBin ixD (rVar 0) (rC (.int 1)))) (gN 4) (rSeq (rSetF 5 (rC (.str "guest"))) (rSeq (rFor (rItems (rVar 4)) (gN 6) (rSetF 5 (rBin addQ (rBin addD (rVar 5) (rC (.str " "))) (rM1 joinD (rC (.str ",")) (rUp (rLc (rItems (rVar 6)) [8, 9] (gT (gsCons (gN 8) (gsCons (gN 9) gsNil))) rYes (rBin addD (rBin ixD (rUp (chkLen (rCons (rC (.str "pass")) (rCons (rC (.str "take")) rNil)))) (rCl intQ (rCons (rVar 8) rNil))) (rCl strD (rCons (rVar 9) rNil))))))))) (rApp 3 (rVar 5))))) (rSeq (rApp 3 (rBin addD (rC (.str "look ")) (rVar 1))) (rSeq (rFzS 3 (rFor (rItems (rVar 2)) (gN 7) (rApp 3 (rM1 joinD (rC (.str " ")) (rUp (rBin catL (rUp (chkLen (rCons (rC (.str "stand")) rNil))) (rUp (rLc (rItems (rVar 7)) [6] (gN 6) rYes (rCl strD (rCons (rVar 6) rNil)))))))))) (rRet (rM1 joinD (rC (.str "\n")) (rVar 3)))))))
def C__law_writing : List D → Sto → Res D := fun ds S => resOf (r__law_writing (env0 (N__law_writing).length ds) S)
theorem d__law_writing (Tp : Top K mg) : HasFn P w K mg base T "_law_writing" 1 3 C__law_writing := by
  obtain ⟨f, fd, G, hm⟩ := Tp.fn 33 rfl
  have nd : (N__law_writing).Nodup := by decide +kernel
  refine fn_mk (N := N__law_writing) (ps := ["row_so", "way_so", "lot_so"]) G ⟨rfl, rfl, rfl, nd, rfl, by decide +kernel, by decide +kernel⟩ hm (G.binds (fun _ _ _ _ _ _ us hl => match us, hl with | [_, _, _], _ => rfl)) r__law_writing (fun cdv A outer s H E F hF hcv hr tk => ?_) fun ds S _ _ => rfl
  have hu := hr.units
  have hu0 := hr.units0
  have hu1 := room65 hr
  exact (vs_cons (qsetO 3 nd (ve_lst (va_cons (ve_bin vop_add mon_F mon_F anti_F ve_str (ve_callTy cl_str anti_F (vax_cons (vx_of_vf (ve_ix (vx_of_vf (qv 0)) ve_int)) vax_nil) (Tp.fr 6 rfl) (by decide +kernel))) va_nil))) (vs_cons (vs_for (passes_of rfl) rfl (vi_seq (ve_ix (vx_of_vf (qv 0)) ve_int)) (qg 4 nd) (vs_cons (qsetF 5 nd ve_str) (vs_cons (vs_for (passes_of rfl) rfl (vi_seq (qv 4)) (qg 6 nd) (vs_one (qsetF 5 nd (vf_of_vq (ve_binQ vop_addQ mon_X mon_X anti_Q (vx_of_vf (ve_bin vop_add mon_F mon_F anti_F (qv 5) ve_str)) (vx_of_vf (ve_join ve_str (vx_of_vo (ve_lc rfl nd (vie_seq (vx_of_vf (qv 6))) (blkOk_by (own := [("takes", 8), ("then", 9)]) (by kernel_rfl)) (fun _ _ _ _ _ => (vg_tup rfl (vgs_cons (qg 8 nd) (vgs_cons (qg 9 nd) vgs_nil)) (glen_cons (glen_cons glen_nil)))) (fun _ _ _ _ _ => vts_nil) (fun _ _ _ _ _ => (ve_bin vop_add mon_F mon_F anti_F (ve_ix (vx_of_vo (ve_lst (va_cons ve_str (va_cons ve_str va_nil)))) (ve_callTy cl_intQ anti_F (vax_cons (vx_of_vf (qv 8)) vax_nil) (Tp.fr 1 rfl) (by decide +kernel))) (ve_callTy cl_str anti_F (vax_cons (vx_of_vf (qv 9)) vax_nil) (Tp.fr 6 rfl) (by decide +kernel)))) (by decide)))))))))) (vs_one (vs_app (i := 3) rfl (by first | exact Or.inl rfl | exact Or.inr (Or.inl rfl)) (qv 5)))))) (vs_cons (vs_app (i := 3) rfl (by first | exact Or.inl rfl | exact Or.inr (Or.inl rfl)) (ve_bin vop_add mon_F mon_F anti_F ve_str (qv 1))) (vs_cons (vs_fz 3 (vs_for (passes_of rfl) rfl (vi_seq (qv 2)) (qg 7 nd) (vs_one (vs_app (i := 3) rfl (by first | exact Or.inl rfl | exact Or.inr (Or.inl rfl)) (ve_join ve_str (vx_of_vo (ve_binQ vop_catL mon_X mon_X anti_O (vx_of_vo (ve_lst (va_cons ve_str va_nil))) (vx_of_vo (ve_lc rfl nd (vie_seq (vx_of_vf (qv 7))) (blkOk_by (own := [("mood_so", 6)]) (by kernel_rfl)) (fun _ _ _ _ _ => (qg 6 nd)) (fun _ _ _ _ _ => vts_nil) (fun _ _ _ _ _ => (ve_callTy cl_str anti_F (vax_cons (vx_of_vf (qv 6)) vax_nil) (Tp.fr 6 rfl) (by decide +kernel))) (by decide)))))))))) (vs_one (vs_ret (ve_join ve_str (vx_of_vf (qv 3)))))))))
theorem u__law_writing (x0 x1 x2 : D) (S : Sto) : C__law_writing [x0, x1, x2] S = resOf ((rSeq (rSetO 3 (chkLen (rCons (rBin addD (rC (.str "kinds ")) (rCl strD (rCons (rBin ixD (rVar 0) (rC (.int 0))) rNil))) rNil))) (rSeq (rFor (rItems (rBin ixD (rVar 0) (rC (.int 1)))) (gN 4) (rSeq (rSetF 5 (rC (.str "guest"))) (rSeq (rFor (rItems (rVar 4)) (gN 6) (rSetF 5 (rBin addQ (rBin addD (rVar 5) (rC (.str " "))) (rM1 joinD (rC (.str ",")) (rUp (rLc (rItems (rVar 6)) [8, 9] (gT (gsCons (gN 8) (gsCons (gN 9) gsNil))) rYes (rBin addD (rBin ixD (rUp (chkLen (rCons (rC (.str "pass")) (rCons (rC (.str "take")) rNil)))) (rCl intQ (rCons (rVar 8) rNil))) (rCl strD (rCons (rVar 9) rNil))))))))) (rApp 3 (rVar 5))))) (rSeq (rApp 3 (rBin addD (rC (.str "look ")) (rVar 1))) (rSeq (rFzS 3 (rFor (rItems (rVar 2)) (gN 7) (rApp 3 (rM1 joinD (rC (.str " ")) (rUp (rBin catL (rUp (chkLen (rCons (rC (.str "stand")) rNil))) (rUp (rLc (rItems (rVar 7)) [6] (gN 6) rYes (rCl strD (rCons (rVar 6) rNil)))))))))) (rRet (rM1 joinD (rC (.str "\n")) (rVar 3))))))) [.val x0, .val x1, .val x2, .un, .un, .un, .un, .un, .un, .un] S) := rfl
def q0__law_writing : VS.Env → Sto → Res D := (rBin addD (rBin ixD (rUp (chkLen (rCons (rC (.str "pass")) (rCons (rC (.str "take")) rNil)))) (rCl intQ (rCons (rVar 8) rNil))) (rCl strD (rCons (rVar 9) rNil)))
def q1__law_writing : RS := (rSetF 5 (rBin addQ (rBin addD (rVar 5) (rC (.str " "))) (rM1 joinD (rC (.str ",")) (rUp (rLc (rItems (rVar 6)) [8, 9] (gT (gsCons (gN 8) (gsCons (gN 9) gsNil))) rYes q0__law_writing)))))
def q2__law_writing : RS := (rSeq (rFor (rItems (rVar 4)) (gN 6) q1__law_writing) (rApp 3 (rVar 5)))
def q3__law_writing : RS := (rSeq (rSetF 5 (rC (.str "guest"))) q2__law_writing)
def q4__law_writing : RS := (rApp 3 (rM1 joinD (rC (.str " ")) (rUp (rBin catL (rUp (chkLen (rCons (rC (.str "stand")) rNil))) (rUp (rLc (rItems (rVar 7)) [6] (gN 6) rYes (rCl strD (rCons (rVar 6) rNil))))))))
def q5__law_writing : RS := (rSeq (rFzS 3 (rFor (rItems (rVar 2)) (gN 7) q4__law_writing)) (rRet (rM1 joinD (rC (.str "\n")) (rVar 3))))
def q6__law_writing : RS := (rSeq (rApp 3 (rBin addD (rC (.str "look ")) (rVar 1))) q5__law_writing)
def q7__law_writing : RS := (rSeq (rFor (rItems (rBin ixD (rVar 0) (rC (.int 1)))) (gN 4) q3__law_writing) q6__law_writing)
def q8__law_writing : RS := (rSeq (rSetO 3 (chkLen (rCons (rBin addD (rC (.str "kinds ")) (rCl strD (rCons (rBin ixD (rVar 0) (rC (.int 0))) rNil))) rNil))) q7__law_writing)
theorem v__law_writing (x0 x1 x2 : D) (S : Sto) : C__law_writing [x0, x1, x2] S = resOf (q8__law_writing [.val x0, .val x1, .val x2, .un, .un, .un, .un, .un, .un, .un] S) := rfl

def N_law : List Str := ["script", "cell", "deck", "way_so", "odd", "row_so", "lot_so", "due", "one", "two", "three", "few", "every"]
abbrev r_law : RS := (rSeq (rFor (rItems (rSl sliceQ (rUp (rBin catL (rUp (chkLen (rCons (rC (.int 0)) rNil))) (rVar 0))) rNoPt (rPt (rC (.int 12))))) (gN 1) (rSeq (rSetF 2 (rCall C__law_deck (rCons (rVar 1) (rCons (rC (.int 9)) rNil)))) (rSeq (rFor (rItems (rFz (chkLen (rCons (rC (.str "who")) (rCons (rC (.str "left")) (rCons (rC (.str "none")) rNil)))))) (gN 3) (rSeq (rSetF 5 (rCall C__law_a_row (rCons (rVar 2) rNil))) (rSeq (rSetF 6 (rCall C__law_a_lot (rCons (rVar 2) (rCons (rVar 5) rNil)))) (rSeq (rSetF 7 (rCall C__law_writing (rCons (rVar 5) (rCons (rVar 3) (rCons (rVar 6) rNil))))) (rSeq (rIfS (rNot (rB (rCall (C__law_same 12) (rCons (rCall C_cook_text (rCons (rVar 5) (rCons (rVar 3) (rCons (rVar 6) rNil)))) (rCons (rVar 7) rNil))))) (rRet (rC (.bl false))) rNext) (rIfS (rNot (rB (rCall (C__law_same 12) (rCons (rTry kt (rCall C_read_cook (rCons (rVar 7) rNil))) (rCons (rTup (chkLen (rCons (rC (.str "told")) (rCons (rTup (chkLen (rCons (rVar 5) (rCons (rVar 3) (rCons (rVar 6) rNil))))) rNil)))) rNil))))) (rRet (rC (.bl false))) rNext)))))) (rSeq (rIfS (rB (rBin neD (rTry kt (rCall C_cook_text (rCons (rFz (rCl listD (rCons (rVar 5) rNil))) (rCons (rC .non) (rCons (rC .non) rNil))))) (rC (.str "row +")))) (rRet (rC (.bl false))) rNext) (rSeq (rFor (rItems (rFz (chkLen (rCons (rC .non) (rCons (rC (.str "")) (rCons (rC (.int 0)) rNil)))))) (gN 4) (rIfS (rB (rBin neD (rTry kt (rCall C_cook_text (rCons (rVar 5) (rCons (rVar 4) (rCons (rC .non) rNil))))) (rC (.str "look +")))) (rRet (rC (.bl false))) rNext)) (rFor (rItems (rFz (chkLen (rCons (rC .non) (rCons (rTup (chkLen rNil)) (rCons (rFz (rCl listD (rCons (rVar 6) rNil))) (rCons (rBin mulQ (rVar 6) (rC (.int 2))) rNil))))))) (gN 4) (rIfS (rB (rBin neD (rTry kt (rCall C_cook_text (rCons (rVar 5) (rCons (rC (.str "who")) (rCons (rVar 4) rNil))))) (rC (.str "lot +")))) (rRet (rC (.bl false))) rNext))))))) (rSeq (rAsg (gT (gsCons (gN 8) (gsCons (gN 9) (gsCons (gN 10) (gsCons (gN 11) (gsCons (gN 12) gsNil)))))) (rCall C__law_known rNil)) (rSeq (rSetF 7 (rC (.str "kinds 2\nguest pass0,pass1 pass0,take1\nlook left\nstand 0\nstand 1"))) (rRet (rAndV (rBin eqD (rCall C_cook_text (rCons (rVar 9) (rCons (rC (.str "left")) (rCons (rVar 11) rNil)))) (rVar 7)) (rBin eqD (rTry kt (rCall C_read_cook (rCons (rVar 7) rNil))) (rTup (chkLen (rCons (rC (.str "told")) (rCons (rTup (chkLen (rCons (rVar 9) (rCons (rC (.str "left")) (rCons (rVar 11) rNil))))) rNil))))))))))
def C_law : List D → Sto → Res D := fun ds S => resOf (r_law (env0 (N_law).length ds) S)
theorem d_law (Tp : Top K mg) {IT TM ME : Addr} (Lz : Lm P w K mg base T IT TM ME) {f : Addr} {fd : FuncData} (G : Fun K "law" "law" (topS 58) f fd) (hm : mg "law" = some (.ref f)) : FnOk P w K mg base (L2N.CX P w) 17 f fd ["script"] (spF ⟨K, mg, T⟩ 1 C_law) := by
  have KW := Lz.kw
  have LT := Lz.lt 0 rfl
  obtain ⟨g, fdT, GT, mT⟩ := Tp.fn 27 rfl
  have nd : (N_law).Nodup := by decide +kernel
  have scT : FnScope ["call_so", "found", "e"] ["call_so"] (defScope (topS 51)) := ⟨rfl, rfl, rfl, by decide +kernel, rfl, by decide +kernel, by decide +kernel⟩
  have bT : Binds K fdT ["call_so"] [] := GT.binds (fun _ _ _ _ _ _ us hl => match us, hl with | [_], _ => rfl)
  obtain ⟨c, P0, e1, TB, hmT, huT⟩ := LT.ex f hm
  refine fn_ok (N := N_law) (ps := ["script"]) G ⟨rfl, rfl, rfl, nd, rfl, by decide +kernel, by decide +kernel⟩ r_law (fun cdv A outer s H E F hF hcv hr tk => ?_) fun ds S _ _ => rfl
  subst hF
  have hu := hr.units
  have hu0 := hr.units0
  have hu1 := room65 hr
  have hcode : cdv = .ref c := hcv.symm.trans e1
  exact (vs_cons (vs_for (passes_of rfl) rfl (vi_seq (vf_of_vq (ve_sliceQ (vx_of_vo (ve_binQ vop_catL mon_X mon_X anti_O (vx_of_vo (ve_lst (va_cons ve_int va_nil))) (vx_of_vf (qv 0)))) vp_none (vp_some ve_int)))) (qg 1 nd) (vs_cons (qsetF 2 nd (ve_call ((d__law_deck Tp).mono (by decide : 1 ≤ 16)) hr tk (lens_cons (lens_cons lens_nil)) (va_cons (qv 1) (va_cons ve_int va_nil)))) (vs_cons (vs_for (passes_of rfl) rfl (vi_seq (vf_of_vo (ve_lst (va_cons ve_str (va_cons ve_str (va_cons ve_str va_nil)))))) (qg 3 nd) (vs_cons (qsetF 5 nd (ve_call ((d__law_a_row Tp).mono (by decide : 4 ≤ 16)) hr tk (lens_cons lens_nil) (va_cons (qv 2) va_nil))) (vs_cons (qsetF 6 nd (ve_call ((d__law_a_lot Tp).mono (by decide : 3 ≤ 16)) hr tk (lens_cons (lens_cons lens_nil)) (va_cons (qv 2) (va_cons (qv 5) va_nil)))) (vs_cons (qsetF 7 nd (ve_call ((d__law_writing Tp).mono (by decide : 1 ≤ 16)) hr tk (lens_cons (lens_cons (lens_cons lens_nil))) (va_cons (qv 5) (va_cons (qv 3) (va_cons (qv 6) va_nil))))) (vs_cons (vs_if (vt_not (vt_val (ve_call ((d__law_same Tp 12).mono (by decide : 14 ≤ 16)) hr tk (lens_cons (lens_cons lens_nil)) (va_cons (ve_call ((d_cook_text Tp).mono (by decide : 8 ≤ 16)) hr tk (lens_cons (lens_cons (lens_cons lens_nil))) (va_cons (qv 5) (va_cons (qv 3) (va_cons (qv 6) va_nil)))) (va_cons (qv 7) va_nil))))) (vs_one (vs_ret ve_bl)) vs_nil) (vs_one (vs_if (vt_not (vt_val (ve_call ((d__law_same Tp 12).mono (by decide : 14 ≤ 16)) hr tk (lens_cons (lens_cons lens_nil)) (va_cons (ve_try (kt := kt) (stT := topS 51) (k := 14) GT mT bT rfl scT (fun _ _ => try_gives (KW.mono (by decide)) hr rfl rfl rfl rfl rfl rfl rfl rfl) TB hcode hmT huT hr (LamX.lamS_by (by kernel_rfl)) (fun A outer s H E f c1 hr tk => (ve_call ((d_read_cook Tp).mono (by decide : 8 ≤ 14)) hr tk (lens_cons lens_nil) (va_cons (qv 7) va_nil)))) (va_cons (ve_tup (va_cons ve_str (va_cons (ve_tup (va_cons (qv 5) (va_cons (qv 3) (va_cons (qv 6) va_nil)))) va_nil))) va_nil))))) (vs_one (vs_ret ve_bl)) vs_nil))))))) (vs_cons (vs_if (vt_cmp (vop_ne hu) mon_X mon_X (vx_of_vf (ve_try (kt := kt) (stT := topS 51) (k := 14) GT mT bT rfl scT (fun _ _ => try_gives (KW.mono (by decide)) hr rfl rfl rfl rfl rfl rfl rfl rfl) TB hcode hmT huT hr (LamX.lamS_by (by kernel_rfl)) (fun A outer s H E f c1 hr tk => (ve_call ((d_cook_text Tp).mono (by decide : 8 ≤ 14)) hr tk (lens_cons (lens_cons (lens_cons lens_nil))) (va_cons (vf_of_vo (ve_callTy cl_list anti_O (vax_cons (vx_of_vf (qv 5)) vax_nil) (Tp.fr 10 rfl) (by decide +kernel))) (va_cons ve_non (va_cons ve_non va_nil))))))) (vx_of_vf ve_str) (nomark _)) (vs_one (vs_ret ve_bl)) vs_nil) (vs_cons (vs_for (passes_of rfl) rfl (vi_seq (vf_of_vo (ve_lst (va_cons ve_non (va_cons ve_str (va_cons ve_int va_nil)))))) (qg 4 nd) (vs_one (vs_if (vt_cmp (vop_ne hu) mon_X mon_X (vx_of_vf (ve_try (kt := kt) (stT := topS 51) (k := 14) GT mT bT rfl scT (fun _ _ => try_gives (KW.mono (by decide)) hr rfl rfl rfl rfl rfl rfl rfl rfl) TB hcode hmT huT hr (LamX.lamS_by (by kernel_rfl)) (fun A outer s H E f c1 hr tk => (ve_call ((d_cook_text Tp).mono (by decide : 8 ≤ 14)) hr tk (lens_cons (lens_cons (lens_cons lens_nil))) (va_cons (qv 5) (va_cons (qv 4) (va_cons ve_non va_nil))))))) (vx_of_vf ve_str) (nomark _)) (vs_one (vs_ret ve_bl)) vs_nil))) (vs_one (vs_for (passes_of rfl) rfl (vi_seq (vf_of_vo (ve_lst (va_cons ve_non (va_cons (ve_tup va_nil) (va_cons (vf_of_vo (ve_callTy cl_list anti_O (vax_cons (vx_of_vf (qv 6)) vax_nil) (Tp.fr 10 rfl) (by decide +kernel))) (va_cons (vf_of_vq (ve_binQ vop_mulQ mon_X mon_X anti_Q (vx_of_vf (qv 6)) (vx_of_vf ve_int))) va_nil))))))) (qg 4 nd) (vs_one (vs_if (vt_cmp (vop_ne hu) mon_X mon_X (vx_of_vf (ve_try (kt := kt) (stT := topS 51) (k := 14) GT mT bT rfl scT (fun _ _ => try_gives (KW.mono (by decide)) hr rfl rfl rfl rfl rfl rfl rfl rfl) TB hcode hmT huT hr (LamX.lamS_by (by kernel_rfl)) (fun A outer s H E f c1 hr tk => (ve_call ((d_cook_text Tp).mono (by decide : 8 ≤ 14)) hr tk (lens_cons (lens_cons (lens_cons lens_nil))) (va_cons (qv 5) (va_cons ve_str (va_cons (qv 4) va_nil))))))) (vx_of_vf ve_str) (nomark _)) (vs_one (vs_ret ve_bl)) vs_nil))))))))) (vs_cons (vs_asg (qcall0 ((d__law_known Tp).mono (by decide : 1 ≤ 16)) hr tk) (vg_tup rfl (vgs_cons (qg 8 nd) (vgs_cons (qg 9 nd) (vgs_cons (qg 10 nd) (vgs_cons (qg 11 nd) (vgs_cons (qg 12 nd) vgs_nil))))) (glen_cons (glen_cons (glen_cons (glen_cons (glen_cons glen_nil))))))) (vs_cons (qsetF 7 nd ve_str) (vs_one (vs_ret (ve_and (ve_cmp (vop_eq hu) mon_X mon_X anti_F (vx_of_vf (ve_call ((d_cook_text Tp).mono (by decide : 8 ≤ 16)) hr tk (lens_cons (lens_cons (lens_cons lens_nil))) (va_cons (qv 9) (va_cons ve_str (va_cons (qv 11) va_nil))))) (vx_of_vf (qv 7)) (nomark _)) (ve_one (ve_cmp (vop_eq hu) mon_X mon_X anti_F (vx_of_vf (ve_try (kt := kt) (stT := topS 51) (k := 14) GT mT bT rfl scT (fun _ _ => try_gives (KW.mono (by decide)) hr rfl rfl rfl rfl rfl rfl rfl rfl) TB hcode hmT huT hr (LamX.lamS_by (by kernel_rfl)) (fun A outer s H E f c1 hr tk => (ve_call ((d_read_cook Tp).mono (by decide : 8 ≤ 14)) hr tk (lens_cons lens_nil) (va_cons (qv 7) va_nil))))) (vx_of_vf (ve_tup (va_cons ve_str (va_cons (ve_tup (va_cons (qv 9) (va_cons ve_str (va_cons (qv 11) va_nil)))) va_nil)))) (nomark _)))))))))
theorem u_law (x0 : D) (S : Sto) : C_law [x0] S = resOf ((rSeq (rFor (rItems (rSl sliceQ (rUp (rBin catL (rUp (chkLen (rCons (rC (.int 0)) rNil))) (rVar 0))) rNoPt (rPt (rC (.int 12))))) (gN 1) (rSeq (rSetF 2 (rCall C__law_deck (rCons (rVar 1) (rCons (rC (.int 9)) rNil)))) (rSeq (rFor (rItems (rFz (chkLen (rCons (rC (.str "who")) (rCons (rC (.str "left")) (rCons (rC (.str "none")) rNil)))))) (gN 3) (rSeq (rSetF 5 (rCall C__law_a_row (rCons (rVar 2) rNil))) (rSeq (rSetF 6 (rCall C__law_a_lot (rCons (rVar 2) (rCons (rVar 5) rNil)))) (rSeq (rSetF 7 (rCall C__law_writing (rCons (rVar 5) (rCons (rVar 3) (rCons (rVar 6) rNil))))) (rSeq (rIfS (rNot (rB (rCall (C__law_same 12) (rCons (rCall C_cook_text (rCons (rVar 5) (rCons (rVar 3) (rCons (rVar 6) rNil)))) (rCons (rVar 7) rNil))))) (rRet (rC (.bl false))) rNext) (rIfS (rNot (rB (rCall (C__law_same 12) (rCons (rTry kt (rCall C_read_cook (rCons (rVar 7) rNil))) (rCons (rTup (chkLen (rCons (rC (.str "told")) (rCons (rTup (chkLen (rCons (rVar 5) (rCons (rVar 3) (rCons (rVar 6) rNil))))) rNil)))) rNil))))) (rRet (rC (.bl false))) rNext)))))) (rSeq (rIfS (rB (rBin neD (rTry kt (rCall C_cook_text (rCons (rFz (rCl listD (rCons (rVar 5) rNil))) (rCons (rC .non) (rCons (rC .non) rNil))))) (rC (.str "row +")))) (rRet (rC (.bl false))) rNext) (rSeq (rFor (rItems (rFz (chkLen (rCons (rC .non) (rCons (rC (.str "")) (rCons (rC (.int 0)) rNil)))))) (gN 4) (rIfS (rB (rBin neD (rTry kt (rCall C_cook_text (rCons (rVar 5) (rCons (rVar 4) (rCons (rC .non) rNil))))) (rC (.str "look +")))) (rRet (rC (.bl false))) rNext)) (rFor (rItems (rFz (chkLen (rCons (rC .non) (rCons (rTup (chkLen rNil)) (rCons (rFz (rCl listD (rCons (rVar 6) rNil))) (rCons (rBin mulQ (rVar 6) (rC (.int 2))) rNil))))))) (gN 4) (rIfS (rB (rBin neD (rTry kt (rCall C_cook_text (rCons (rVar 5) (rCons (rC (.str "who")) (rCons (rVar 4) rNil))))) (rC (.str "lot +")))) (rRet (rC (.bl false))) rNext))))))) (rSeq (rAsg (gT (gsCons (gN 8) (gsCons (gN 9) (gsCons (gN 10) (gsCons (gN 11) (gsCons (gN 12) gsNil)))))) (rCall C__law_known rNil)) (rSeq (rSetF 7 (rC (.str "kinds 2\nguest pass0,pass1 pass0,take1\nlook left\nstand 0\nstand 1"))) (rRet (rAndV (rBin eqD (rCall C_cook_text (rCons (rVar 9) (rCons (rC (.str "left")) (rCons (rVar 11) rNil)))) (rVar 7)) (rBin eqD (rTry kt (rCall C_read_cook (rCons (rVar 7) rNil))) (rTup (chkLen (rCons (rC (.str "told")) (rCons (rTup (chkLen (rCons (rVar 9) (rCons (rC (.str "left")) (rCons (rVar 11) rNil))))) rNil)))))))))) [.val x0, .un, .un, .un, .un, .un, .un, .un, .un, .un, .un, .un, .un] S) := rfl
def q0_law : RS := (rSeq (rIfS (rNot (rB (rCall (C__law_same 12) (rCons (rCall C_cook_text (rCons (rVar 5) (rCons (rVar 3) (rCons (rVar 6) rNil)))) (rCons (rVar 7) rNil))))) (rRet (rC (.bl false))) rNext) (rIfS (rNot (rB (rCall (C__law_same 12) (rCons (rTry kt (rCall C_read_cook (rCons (rVar 7) rNil))) (rCons (rTup (chkLen (rCons (rC (.str "told")) (rCons (rTup (chkLen (rCons (rVar 5) (rCons (rVar 3) (rCons (rVar 6) rNil))))) rNil)))) rNil))))) (rRet (rC (.bl false))) rNext))
def q1_law : RS := (rSeq (rSetF 7 (rCall C__law_writing (rCons (rVar 5) (rCons (rVar 3) (rCons (rVar 6) rNil))))) q0_law)
def q2_law : RS := (rSeq (rSetF 6 (rCall C__law_a_lot (rCons (rVar 2) (rCons (rVar 5) rNil)))) q1_law)
def q3_law : RS := (rSeq (rSetF 5 (rCall C__law_a_row (rCons (rVar 2) rNil))) q2_law)
def q4_law : RS := (rIfS (rB (rBin neD (rTry kt (rCall C_cook_text (rCons (rVar 5) (rCons (rVar 4) (rCons (rC .non) rNil))))) (rC (.str "look +")))) (rRet (rC (.bl false))) rNext)
def q5_law : RS := (rIfS (rB (rBin neD (rTry kt (rCall C_cook_text (rCons (rVar 5) (rCons (rC (.str "who")) (rCons (rVar 4) rNil))))) (rC (.str "lot +")))) (rRet (rC (.bl false))) rNext)
def q6_law : RS := (rSeq (rFor (rItems (rFz (chkLen (rCons (rC .non) (rCons (rC (.str "")) (rCons (rC (.int 0)) rNil)))))) (gN 4) q4_law) (rFor (rItems (rFz (chkLen (rCons (rC .non) (rCons (rTup (chkLen rNil)) (rCons (rFz (rCl listD (rCons (rVar 6) rNil))) (rCons (rBin mulQ (rVar 6) (rC (.int 2))) rNil))))))) (gN 4) q5_law))
def q7_law : RS := (rSeq (rIfS (rB (rBin neD (rTry kt (rCall C_cook_text (rCons (rFz (rCl listD (rCons (rVar 5) rNil))) (rCons (rC .non) (rCons (rC .non) rNil))))) (rC (.str "row +")))) (rRet (rC (.bl false))) rNext) q6_law)
def q8_law : RS := (rSeq (rFor (rItems (rFz (chkLen (rCons (rC (.str "who")) (rCons (rC (.str "left")) (rCons (rC (.str "none")) rNil)))))) (gN 3) q3_law) q7_law)
def q9_law : RS := (rSeq (rSetF 2 (rCall C__law_deck (rCons (rVar 1) (rCons (rC (.int 9)) rNil)))) q8_law)
def q10_law : RS := (rSeq (rSetF 7 (rC (.str "kinds 2\nguest pass0,pass1 pass0,take1\nlook left\nstand 0\nstand 1"))) (rRet (rAndV (rBin eqD (rCall C_cook_text (rCons (rVar 9) (rCons (rC (.str "left")) (rCons (rVar 11) rNil)))) (rVar 7)) (rBin eqD (rTry kt (rCall C_read_cook (rCons (rVar 7) rNil))) (rTup (chkLen (rCons (rC (.str "told")) (rCons (rTup (chkLen (rCons (rVar 9) (rCons (rC (.str "left")) (rCons (rVar 11) rNil))))) rNil))))))))
def q11_law : RS := (rSeq (rAsg (gT (gsCons (gN 8) (gsCons (gN 9) (gsCons (gN 10) (gsCons (gN 11) (gsCons (gN 12) gsNil)))))) (rCall C__law_known rNil)) q10_law)
def q12_law : RS := (rSeq (rFor (rItems (rSl sliceQ (rUp (rBin catL (rUp (chkLen (rCons (rC (.int 0)) rNil))) (rVar 0))) rNoPt (rPt (rC (.int 12))))) (gN 1) q9_law) q11_law)
theorem v_law (x0 : D) (S : Sto) : C_law [x0] S = resOf (q12_law [.val x0, .un, .un, .un, .un, .un, .un, .un, .un, .un, .un, .un, .un] S) := rfl

end
end Gk09

set_option maxHeartbeats 4000000
namespace Gk09
open PySem PySem.Spec PyProof.Rows L2 VS
set_option maxHeartbeats 4000000
def withinB (lo hi : Int) : D → Bool
  | .int i => decide (lo ≤ i) && decide (i ≤ hi)
  | _ => false
def itemsB (lo hi : Int) : D → Bool
  | .tup l => decide (lo ≤ (l.length : Int)) && decide ((l.length : Int) ≤ hi)
  | _ => false
def tallB (p : D → Bool) : D → Bool
  | .tup l => l.all p
  | _ => false
def tlen : D → Int
  | .tup l => l.length
  | _ => 0
def habitB (n : Int) : D → Bool
  | .tup [.bl _, x] => withinB 0 (n - 1) x
  | _ => false
def moodB (k n : Int) (d : D) : Bool := itemsB k k d && tallB (habitB n) d
def guestB (k : Int) (d : D) : Bool := itemsB 1 3 d && tallB (moodB k (tlen d)) d
def rowB : D → Bool
  | .tup [.int k, gs] => withinB 1 3 (.int k) && (itemsB 1 2 gs && tallB (guestB k) gs)
  | _ => false
theorem e_is_within {m n : Nat} (d : D) (lo hi : Int) (S : Sto) (h : gd m n d = true) : C_is_within [d, .int lo, .int hi] S = .ok (.bl (withinB lo hi d)) S := by
  rw [u_is_within]
  cases d <;> simp [isT, tyName, ite_and, leI, iBin, withinB, optR]
  all_goals first | (cases n <;> simp [gd] at h; done) | skip
theorem e_has_items {m n : Nat} (d : D) (lo hi : Int) (S : Sto) (h : gd m n d = true) : C_has_items [d, .int lo, .int hi] S = .ok (.bl (itemsB lo hi d)) S := by
  rw [u_has_items]
  cases d <;> simp [isT, tyName, ite_and, leI, iBin, itemsB, optR, lenD]
  all_goals first | (cases n <;> simp [gd] at h; done) | skip
theorem it2 {d : D} (h : itemsB 2 2 d = true) : ∃ a b, d = .tup [a, b] := by
  cases d <;> simp [itemsB] at h
  rename_i l
  match l, h with
  | [a, b], _ => exact ⟨a, b, rfl⟩
  | [], h => simp at h
  | [_], h => simp at h
  | _ :: _ :: _ :: _, h => simp at h; omega
theorem e_is_habit {m n : Nat} (d : D) (k : Int) (S : Sto) (h : gd m n d = true) : C_is_habit [d, .int k] S = .ok (.bl (habitB k d)) S := by
  rw [u_is_habit]
  have e1 := e_has_items d 2 2 S h
  cases hb : itemsB 2 2 d with
  | false =>
    rw [hb] at e1
    simp [e1]
    unfold habitB
    split
    · simp [itemsB] at hb
    · rfl
  | true =>
    rw [hb] at e1
    obtain ⟨a, b, rfl⟩ := it2 hb
    obtain ⟨j, rfl, -, hg⟩ := gd_tup h
    have e2 := e_is_within b 0 (k - 1) S (hg b (by simp))
    have ga := hg a (by simp)
    simp [e1, ixD, L2.atI, L2.ixN, subD, iBin, optR]
    cases a <;> first | (simp [isT, habitB, e2]; done) | (exfalso; cases j <;> simp [gd] at ga; done)
theorem e_is_mood {m n : Nat} (d : D) (k i : Int) (S : Sto) (h : gd m n d = true) (hm : m ≤ lim) : C_is_mood [.int k, d, .int i] S = .ok (.bl (moodB k i d)) S := by
  rw [u_is_mood]
  have e1 := e_has_items d k k S h
  unfold moodB
  cases hb : itemsB k k d with
  | false =>
    rw [hb] at e1
    simp [e1]
  | true =>
    rw [hb] at e1
    cases d <;> simp [itemsB] at hb
    rename_i l
    obtain ⟨j, rfl, hl, hg⟩ := gd_tup h
    simp [e1, itemsD, optR, wipeE]
    rw [lcL_map (fun x => .bl (habitB i x)) l]
    · simp [allD_map, tallB]
    · intro x hx
      refine ⟨_, rfl, ?_⟩
      simp
      exact e_is_habit x i S (hg x hx)
    · omega
theorem e_is_guest {m n : Nat} (d : D) (k : Int) (S : Sto) (h : gd m n d = true) (hm : m ≤ lim) : C_is_guest_value [.int k, d] S = .ok (.bl (guestB k d)) S := by
  rw [u_is_guest_value]
  have e1 := e_has_items d 1 3 S h
  unfold guestB
  cases hb : itemsB 1 3 d with
  | false =>
    rw [hb] at e1
    simp [e1]
  | true =>
    rw [hb] at e1
    cases d <;> simp [itemsB] at hb
    rename_i l
    obtain ⟨j, rfl, hl, hg⟩ := gd_tup h
    simp [e1, itemsD, optR, wipeE, lenD]
    rw [lcL_map (fun x => .bl (moodB k l.length x)) l]
    · simp [allD_map, tallB, tlen]
    · intro x hx
      refine ⟨_, rfl, ?_⟩
      simp
      exact e_is_mood x k _ S (hg x hx) hm
    · omega
theorem e_is_row_value {m n : Nat} (d : D) (S : Sto) (h : gd m n d = true) (hm : m ≤ lim) : C_is_row_value [d] S = .ok (.bl (rowB d)) S := by
  rw [u_is_row_value]
  have e1 := e_has_items d 2 2 S h
  cases hb : itemsB 2 2 d with
  | false =>
    rw [hb] at e1
    simp [e1, asB, optR]
    unfold rowB
    split
    · simp [itemsB] at hb
    · rfl
  | true =>
    rw [hb] at e1
    obtain ⟨a, b, rfl⟩ := it2 hb
    obtain ⟨j, rfl, -, hg⟩ := gd_tup h
    have e2 := e_is_within a 1 3 S (hg a (by simp))
    have e3 := e_has_items b 1 2 S (hg b (by simp))
    have ga := hg a (by simp)
    have gb := hg b (by simp)
    simp [e1, ixD, L2.atI, L2.ixN, asB, optR, e2, e3]
    cases hw : withinB 1 3 a with
    | false =>
      simp
      cases a <;> simp [rowB]
      simp [hw]
    | true =>
      simp
      cases a <;> simp [withinB] at hw
      rename_i k
      cases hi : itemsB 1 2 b with
      | false => simp [rowB, hi]
      | true =>
        cases b <;> simp [itemsB] at hi
        rename_i l
        obtain ⟨j, rfl, hl, hg⟩ := gd_tup gb
        simp [itemsD, wipeE, optR]
        rw [lcL_map (fun x => .bl (guestB k x)) l]
        · simp [allD_map, tallB, rowB, itemsB, withinB, hw, hi]
        · intro x hx
          refine ⟨_, rfl, ?_⟩
          simp [ixD, L2.atI, L2.ixN, optR]
          exact e_is_guest x k S (hg x hx) hm
        · omega
theorem e_need_row {m n : Nat} (d : D) (S : Sto) (h : gd m n d = true) (hm : m ≤ lim) : C_need_row [d] S = if rowB d = true then .ok .non S else .exc ⟨"InvalidRow", none⟩ S := by
  rw [u_need_row]
  simp [e_is_row_value d S h hm, asB, optR]
  cases rowB d <;> simp
set_option maxHeartbeats 4000000
def wholeB : D → Bool
  | .int _ => true
  | _ => false
set_option maxHeartbeats 4000000
theorem shp_nil : shp (.lst []) = true ∧ shp (.tup []) = true := by simp [shp, okD, okDs, dep, deps]
theorem eqBs_nil (l : List D) : eqBs l [] = l.isEmpty := by cases l <;> simp [eqBs]
theorem eqD_lst_nil {l : List D} (h : shp (.lst l) = true) : eqD (.lst l) (.lst []) = some (.bl l.isEmpty) := by
  simp [eqD, h, shp_nil, eqB, eqBs_nil]
theorem eqD_tup_nil {l : List D} (h : shp (.tup l) = true) : eqD (.tup l) (.tup []) = some (.bl l.isEmpty) := by
  simp [eqD, h, shp_nil, eqB, eqBs_nil]
theorem neD_lst_nil {l : List D} (h : shp (.lst l) = true) : neD (.lst l) (.lst []) = some (.bl (!l.isEmpty)) := by
  simp [neD, h, shp_nil, eqB, eqBs_nil]
theorem shp_flat {l : List D} (h : ∀ d ∈ l, ∃ i, d = .int i) : shp (.lst l) = true ∧ shp (.tup l) = true := by
  have g : ∀ d ∈ l, gd l.length 0 d = true := fun d hd => by obtain ⟨i, rfl⟩ := h d hd; simp [gd]
  have g1 : gd l.length 1 (.lst l) = true := by simp [gd]; exact g
  have g2 : gd l.length 1 (.tup l) = true := by simp [gd]; exact g
  exact ⟨gd_shp g1 (by omega), gd_shp g2 (by omega)⟩
theorem filter_not_all (p : D → Bool) : ∀ l : List D, (l.filter fun x => !p x).isEmpty = l.all p
  | [] => rfl
  | d :: l => by
    cases h : p d <;> simp [h, filter_not_all p l]
set_option maxHeartbeats 4000000
def L3 (g : List D) : Prop := (∃ a, g = [a]) ∨ (∃ a b, g = [a, b]) ∨ ∃ a b c, g = [a, b, c]
theorem l3_of {g : List D} (h1 : 1 ≤ g.length) (h3 : g.length ≤ 3) : L3 g := by
  match g, h1, h3 with
  | [a], _, _ => exact .inl ⟨a, rfl⟩
  | [a, b], _, _ => exact .inr (.inl ⟨a, b, rfl⟩)
  | [a, b, c], _, _ => exact .inr (.inr ⟨a, b, c, rfl⟩)
  | _ :: _ :: _ :: _ :: _, _, h => simp at h
theorem guest_l3 {k : Int} {d : D} (h : guestB k d = true) : ∃ g, d = .tup g ∧ L3 g := by
  cases d <;> simp [guestB, itemsB] at h
  exact ⟨_, rfl, l3_of (by omega) (by omega)⟩
theorem row_cases {d : D} (h : rowB d = true) : ∃ k gs, d = .tup [.int k, .tup gs] ∧ 1 ≤ k ∧ k ≤ 3 ∧ ((∃ g1, gs = [.tup g1] ∧ L3 g1) ∨ ∃ g1 g2, gs = [.tup g1, .tup g2] ∧ L3 g1 ∧ L3 g2) := by
  unfold rowB at h
  split at h
  · rename_i k gs
    cases gs <;> simp [withinB, itemsB, tallB] at h
    rename_i gs
    obtain ⟨⟨h1, h2⟩, ⟨h3, h4⟩, h5⟩ := h
    refine ⟨k, gs, rfl, h1, h2, ?_⟩
    match gs, h3, h4, h5 with
    | [a], _, _, h5 =>
      obtain ⟨g, rfl, l⟩ := guest_l3 (h5 a (by simp))
      exact .inl ⟨g, rfl, l⟩
    | [a, b], _, _, h5 =>
      obtain ⟨g, rfl, l⟩ := guest_l3 (h5 a (by simp))
      obtain ⟨g', rfl, l'⟩ := guest_l3 (h5 b (by simp))
      exact .inr ⟨g, g', rfl, l, l'⟩
    | [], h3, _, _ => simp at h3
    | _ :: _ :: _ :: _, _, h4, _ => simp at h4; omega
  · cases h
def evK (ns : List Nat) : List (List Int) := ns.foldl (fun acc n => acc.flatMap fun h => (List.range n).map fun (i : Nat) => h ++ [(i : Int)]) [[]]
def gLen : D → Nat
  | .tup l => l.length
  | _ => 0
def evD (d : D) : List (List Int) := match d with
  | .tup [_, .tup gs] => evK (gs.map gLen)
  | _ => []
theorem e_law_every {d : D} (S : Sto) (h : rowB d = true) : C__law_every [d] S = .ok (.lst ((evD d).map tupI)) S := by
  obtain ⟨k, gs, rfl, -, -, h⟩ := row_cases h
  rw [u__law_every]
  rcases h with ⟨g1, rfl, l1⟩ | ⟨g1, g2, rfl, l1, l2⟩
  · rcases l1 with ⟨a, rfl⟩ | ⟨a, b, rfl⟩ | ⟨a, b, c, rfl⟩ <;> kernel_rfl
  · rcases l1 with ⟨a, rfl⟩ | ⟨a, b, rfl⟩ | ⟨a, b, c, rfl⟩ <;> rcases l2 with ⟨a, rfl⟩ | ⟨a, b, rfl⟩ | ⟨a, b, c, rfl⟩ <;> kernel_rfl
set_option maxHeartbeats 4000000
def allNs : List (List Nat) := [[1], [2], [3], [1, 1], [1, 2], [1, 3], [2, 1], [2, 2], [2, 3], [3, 1], [3, 2], [3, 3]]
theorem row_lens {d : D} (h : rowB d = true) : ∃ ns ∈ allNs, evD d = evK ns ∧ ∃ k gs, d = .tup [.int k, .tup gs] ∧ gs.map gLen = ns ∧ ∀ g ∈ gs, ∃ l, g = .tup l := by
  obtain ⟨k, gs, rfl, -, -, h⟩ := row_cases h
  rcases h with ⟨g1, rfl, l1⟩ | ⟨g1, g2, rfl, l1, l2⟩
  · rcases l1 with ⟨a, rfl⟩ | ⟨a, b, rfl⟩ | ⟨a, b, c, rfl⟩ <;> exact ⟨_, by simp [gLen, allNs], rfl, k, _, rfl, rfl, by simp⟩
  · rcases l1 with ⟨a, rfl⟩ | ⟨a, b, rfl⟩ | ⟨a, b, c, rfl⟩ <;> rcases l2 with ⟨a, rfl⟩ | ⟨a, b, rfl⟩ | ⟨a, b, c, rfl⟩ <;> exact ⟨_, by simp [gLen, allNs], rfl, k, _, rfl, rfl, by simp⟩
def codeLt (a b : List Int) : Prop := TS.code 64 a < TS.code 64 b
instance (a b : List Int) : Decidable (codeLt a b) := by unfold codeLt; infer_instance
theorem all_ok : ∀ ns ∈ allNs, (evK ns).Pairwise codeLt ∧ (evK ns).length ≤ 9 ∧ (∀ a ∈ evK ns, keyOk ns.length a = true) ∧ ∀ a ∈ evK ns, ∀ b ∈ evK ns, HT.lexLt a b = decide (codeLt a b) := by decide +kernel
def inE (E : List (List Int)) : D → Bool
  | .tup l => match intsOf l with
    | some z => E.contains z
    | none => false
  | _ => false
theorem sub_of_sorted : ∀ {E zs : List (List Int)}, E.Pairwise codeLt → zs.Pairwise codeLt → (∀ z ∈ zs, z ∈ E) → zs.Sublist E
  | [], [], _, _, _ => .slnil
  | [], z :: _, _, _, h => by have := h z (by simp); simp at this
  | e :: E, [], _, _, _ => List.nil_sublist _
  | e :: E, z :: zs, hE, hz, h => by
    have hE' := List.pairwise_cons.mp hE
    have hz' := List.pairwise_cons.mp hz
    by_cases c : z = e
    · subst c
      refine .cons₂ _ (sub_of_sorted hE'.2 hz'.2 fun y hy => ?_)
      have m := h y (List.mem_cons_of_mem _ hy)
      rcases List.mem_cons.mp m with rfl | m
      · have := hz'.1 _ hy
        unfold codeLt at this
        omega
      · exact m
    · have m := h z (by simp)
      rcases List.mem_cons.mp m with m | m
      · exact absurd m c
      refine .cons _ (sub_of_sorted hE'.2 hz fun y hy => ?_)
      have m' := h y hy
      rcases List.mem_cons.mp m' with q | m'
      · have h1 := hE'.1 z m
        rcases List.mem_cons.mp hy with hy | hy
        · rw [hy]; exact m
        · have h2 := hz'.1 _ hy
          rw [q] at h2
          unfold codeLt at h1 h2
          omega
      · exact m'
theorem adj_pair {l : List (List Int)} (h : ∀ i, (hi : i + 1 < l.length) → codeLt (l[i]) (l[i + 1])) : l.Pairwise codeLt := by
  induction l with
  | nil => exact .nil
  | cons a l ih =>
    have ih := ih fun i hi => h (i + 1) (by simpa using hi)
    refine List.pairwise_cons.mpr ⟨fun b hb => ?_, ih⟩
    cases l with
    | nil => simp at hb
    | cons c l =>
      have h0 := h 0 (by simp)
      simp at h0
      rcases List.mem_cons.mp hb with rfl | hb
      · exact h0
      · have := (List.pairwise_cons.mp ih).1 b hb
        unfold codeLt at *
        omega
def lotZ (E zs : List (List Int)) : Bool := !zs.isEmpty && (zs.all (E.contains ·) && decide (zs = sortU zs))
def lotB (E : List (List Int)) : D → Bool
  | .tup l => match tupsOf l with
    | some zs => lotZ E zs
    | none => false
  | _ => false
def adjB (zs : List (List Int)) : Bool := (List.range (zs.length - 1)).all fun i => HT.lexLt (zs.getD i []) (zs.getD (i + 1) [])
theorem all_inE (E : List (List Int)) : ∀ l : List D, l.all (inE E) = match tupsOf l with | some zs => zs.all (E.contains ·) | none => false
  | [] => rfl
  | d :: l => by
    cases d <;> simp [inE, tupsOf]
    rename_i m
    cases h1 : intsOf m with
    | none => simp
    | some z =>
      simp
      cases h2 : tupsOf l with
      | none =>
        have e : l.all (inE E) = false := by rw [all_inE E l, h2]
        rw [e, Bool.and_false]
      | some zs =>
        have e : l.all (inE E) = zs.all (E.contains ·) := by rw [all_inE E l, h2]
        rw [e]
        simp
structure EOK (E : List (List Int)) : Prop where
  sorted : E.Pairwise codeLt
  len : E.length ≤ 9
  key : ∃ d, ∀ a ∈ E, keyOk d a = true
  lex : ∀ a ∈ E, ∀ b ∈ E, HT.lexLt a b = decide (codeLt a b)
theorem eok {d : D} (h : rowB d = true) : EOK (evD d) := by
  obtain ⟨ns, hn, e, -⟩ := row_lens h
  obtain ⟨h1, h2, h3, h4⟩ := all_ok ns hn
  rw [e]
  exact ⟨h1, h2, ⟨_, h3⟩, h4⟩
theorem EOK.srt {E zs : List (List Int)} (h : EOK E) (hz : ∀ z ∈ zs, z ∈ E) : zs.Pairwise codeLt ↔ zs = sortU zs := by
  obtain ⟨d, hk⟩ := h.key
  have hs := sortU_sorted (ks := zs) fun k hk' => hk k (hz k hk')
  constructor
  · intro p
    exact sorted_eq p hs fun z => mem_sortU.symm
  · intro e
    rw [e]
    exact hs
theorem getD_get {α : Type} (l : List α) (d : α) {i : Nat} (h : i < l.length) : l.getD i d = l[i] := by simp [h]
theorem EOK.adj {E zs : List (List Int)} (h : EOK E) (hz : ∀ z ∈ zs, z ∈ E) : adjB zs = decide (zs = sortU zs) := by
  rw [Bool.eq_iff_iff, decide_eq_true_eq, ← h.srt hz]
  unfold adjB
  simp only [List.all_eq_true, List.mem_range]
  constructor
  · intro g
    refine adj_pair fun i hi => ?_
    have := g i (by omega)
    rw [getD_get _ _ (by omega), getD_get _ _ hi, h.lex _ (hz _ (List.getElem_mem _)) _ (hz _ (List.getElem_mem _))] at this
    exact of_decide_eq_true this
  · intro p i hi
    rw [getD_get _ _ (by omega), getD_get _ _ (by omega), h.lex _ (hz _ (List.getElem_mem _)) _ (hz _ (List.getElem_mem _))]
    exact decide_eq_true (List.pairwise_iff_getElem.mp p _ _ _ _ (by omega))
theorem EOK.le9 {E zs : List (List Int)} (h : EOK E) (hz : ∀ z ∈ zs, z ∈ E) (e : zs = VS.sortU zs) : zs.length ≤ 9 :=
  Nat.le_trans (sub_of_sorted h.sorted ((h.srt hz).mpr e) hz).length_le h.len
set_option maxHeartbeats 4000000
theorem within1 (a : D) : (withinB 0 (1 - 1) a = inE (evK [1]) (.tup [a])) ∧ (withinB 0 (2 - 1) a = inE (evK [2]) (.tup [a])) ∧ (withinB 0 (3 - 1) a = inE (evK [3]) (.tup [a])) := by
  cases a <;> simp [withinB, inE, intsOf]
  rename_i i
  refine ⟨?_, ?_, ?_⟩ <;> (rw [Bool.eq_iff_iff]; simp [evK, List.flatMap, List.range, List.range.loop]; omega)
theorem within2 (a b : D) : ∀ n1 ∈ [1, 2, 3], ∀ n2 ∈ [1, 2, 3], (withinB 0 ((n1 : Nat) - 1) a && withinB 0 ((n2 : Nat) - 1) b) = inE (evK [n1, n2]) (.tup [a, b]) := by
  cases a with
  | int i =>
    cases b with
    | int j =>
      simp [withinB, inE, intsOf]
      refine ⟨⟨?_, ?_, ?_⟩, ⟨?_, ?_, ?_⟩, ⟨?_, ?_, ?_⟩⟩ <;> (rw [Bool.eq_iff_iff]; simp [evK, List.flatMap, List.range, List.range.loop]; omega)
    | _ => simp [withinB, inE, intsOf]
  | _ => simp [withinB, inE, intsOf]
theorem intsOf_len : ∀ {l : List D} {z : List Int}, intsOf l = some z → z.length = l.length := fun {l z} h => by rw [intsOf_eq h]; simp
theorem inE_no {E : List (List Int)} {k : Nat} {l : List D} (h : ∀ z ∈ E, z.length = k) (hl : ¬ l.length = k) : inE E (.tup l) = false := by
  simp [inE]
  cases e : intsOf l with
  | none => rfl
  | some z =>
    simp
    intro hz
    exact hl ((intsOf_len e).symm.trans (h z hz))
theorem evK1_len : ∀ n ∈ [1, 2, 3], ∀ z ∈ evK [n], z.length = 1 := by decide
theorem evK2_len : ∀ n ∈ [1, 2, 3], ∀ n' ∈ [1, 2, 3], ∀ z ∈ evK [n, n'], z.length = 2 := by decide
theorem l3_len {g : List D} (h : L3 g) : g.length ∈ [1, 2, 3] := by
  rcases h with ⟨a, rfl⟩ | ⟨a, b, rfl⟩ | ⟨a, b, c, rfl⟩ <;> simp
theorem e_is_stand {m n : Nat} {d : D} (x : D) (S : Sto) (h : rowB d = true) (hx : gd m n x = true) : C_is_stand_value [d, x] S = .ok (.bl (inE (evD d) x)) S := by
  obtain ⟨k, gs, rfl, -, -, h⟩ := row_cases h
  rw [u_is_stand_value]
  rcases h with ⟨g1, rfl, l1⟩ | ⟨g1, g2, rfl, l1, l2⟩
  · have e0 : evD (.tup [.int k, .tup [.tup g1]]) = evK [g1.length] := rfl
    rw [e0]
    simp [ixD, L2.atI, L2.ixN, optR, lenD, e_has_items x 1 1 S hx, asB]
    cases x with
    | tup l =>
      obtain ⟨j, rfl, hl, hg⟩ := gd_tup hx
      by_cases hk : l.length = 1
      · match l, hk, hg with
        | [a], _, hg =>
          simp [itemsB, zipD, zipF, wipeE, lcL, gT, gsCons, gN, gsNil, optR, lenD, subD, iBin, e_is_within a 0 ((g1.length : Int) - 1) S (hg a (by simp)), allD, boolsOf, lim]
          have w := within1 a
          rcases l1 with ⟨a, rfl⟩ | ⟨a, b, rfl⟩ | ⟨a, b, c, rfl⟩
          · exact w.1
          · exact w.2.1
          · exact w.2.2
      · rw [inE_no (evK1_len _ (l3_len l1)) hk]
        have hb : itemsB 1 1 (.tup l) = false := by simp [itemsB]; omega
        simp [hb]
    | _ => first | (simp [itemsB, inE]; done) | (exfalso; cases n <;> simp [gd] at hx; done)
  · have e0 : evD (.tup [.int k, .tup [.tup g1, .tup g2]]) = evK [g1.length, g2.length] := rfl
    rw [e0]
    simp [ixD, L2.atI, L2.ixN, optR, lenD, e_has_items x 2 2 S hx, asB]
    cases x with
    | tup l =>
      obtain ⟨j, rfl, hl, hg⟩ := gd_tup hx
      by_cases hk : l.length = 2
      · match l, hk, hg with
        | [a, b], _, hg =>
          simp [itemsB, zipD, zipF, wipeE, lcL, gT, gsCons, gN, gsNil, optR, lenD, subD, iBin, e_is_within a 0 ((g1.length : Int) - 1) S (hg a (by simp)), e_is_within b 0 ((g2.length : Int) - 1) S (hg b (by simp)), allD, boolsOf, lim]
          exact within2 a b _ (l3_len l1) _ (l3_len l2)
      · rw [inE_no (evK2_len _ (l3_len l1) _ (l3_len l2)) hk]
        have hb : itemsB 2 2 (.tup l) = false := by simp [itemsB]; omega
        simp [hb]
    | _ => first | (simp [itemsB, inE]; done) | (exfalso; cases n <;> simp [gd] at hx; done)
theorem tup_at {zs : List (List Int)} {i : Nat} (h : i < zs.length) : ixD (.tup (zs.map tupI)) (.int (i : Int)) = some (tupI (zs.getD i [])) := by
  simp [ixD, L2.atI, L2.ixN, h]
theorem intsOf_map : ∀ z : List Int, intsOf (z.map .int) = some z
  | [] => rfl
  | i :: z => by simp [intsOf, intsOf_map z]
theorem tupsOf_map : ∀ zs : List (List Int), tupsOf (zs.map tupI) = some zs
  | [] => rfl
  | z :: zs => by simp [tupsOf, tupI, intsOf_map, tupsOf_map zs]
theorem lt_tupI (a b : List Int) : ltQ (tupI a) (tupI b) = some (.bl (HT.lexLt a b)) := by
  simp [ltQ, tupI, intsOf_map]
theorem inE_all {E : List (List Int)} {l : List D} (h : l.all (inE E) = true) : ∃ zs : List (List Int), l = zs.map tupI ∧ (∀ z ∈ zs, z ∈ E) ∧ zs.all (E.contains ·) = true := by
  rw [all_inE] at h
  cases e : tupsOf l with
  | none => rw [e] at h; cases h
  | some zs =>
    rw [e] at h
    refine ⟨zs, tupsOf_eq e, fun z hz => ?_, h⟩
    simpa using List.all_eq_true.mp h z hz
theorem lotB_inE {E : List (List Int)} {l : List D} (h : l.all (inE E) = false) : lotB E (.tup l) = false := by
  rw [all_inE] at h
  unfold lotB
  cases e : tupsOf l with
  | none => simp only [e]
  | some zs =>
    rw [e] at h
    simp only [e, lotZ]
    rw [show zs.all (E.contains ·) = false from h]
    simp
theorem lotB_map {E zs : List (List Int)} (h : zs.all (E.contains ·) = true) : lotB E (.tup (zs.map tupI)) = (!zs.isEmpty && decide (zs = sortU zs)) := by
  unfold lotB
  simp only [tupsOf_map, lotZ, h, Bool.true_and]
theorem lotB_le {E : List (List Int)} {l : List D} (k : EOK E) (h : lotB E (.tup l) = true) : itemsB 1 9 (.tup l) = true := by
  cases e : l.all (inE E) with
  | false => rw [lotB_inE e] at h; cases h
  | true =>
    obtain ⟨zs, rfl, hz, ha⟩ := inE_all e
    rw [lotB_map ha] at h
    simp at h
    have h9 := k.le9 hz h.2
    have h1 : 1 ≤ zs.length := by
      cases zs with
      | nil => simp at h
      | cons _ _ => simp
    simp [itemsB]
    omega
theorem rangeD_nat (n : Nat) (h : n < 1000000) : rangeD [.int (n : Int)] = some ((List.range n).map fun (i : Nat) => .int (i : Int)) := by
  have : -1000 < (n : Int) ∧ (n : Int) < 1000000 := by omega
  simp [rangeD, this]
theorem nine_lim : 9 ≤ lim := by decide
def adjP (zs : List (List Int)) : D → Bool
  | .int i => HT.lexLt (zs.getD i.toNat []) (zs.getD (i.toNat + 1) [])
  | _ => false
theorem adjP_all (zs : List (List Int)) : ((List.range (zs.length - 1)).map fun (i : Nat) => D.int (i : Int)).all (adjP zs) = adjB zs := by
  simp only [List.all_map, adjB]
  congr 1
set_option maxHeartbeats 4000000
theorem rSeq_nx {a b : RS} {ρ ρ' : VS.Env} {S S' : Sto} (h : a ρ S = .nx ρ' S') : rSeq a b ρ S = b ρ' S' := by simp [h]
theorem rSeq_rt {a b : RS} {ρ : VS.Env} {S S' : Sto} {d : D} (h : a ρ S = .rt d S') : rSeq a b ρ S = .rt d S' := by simp [h]
theorem rLc_ok {ri : VS.Env → Sto → Res (List D)} {vs : List Nat} {g : D → VS.Env → Option VS.Env} {t : VS.Env → Sto → Res Bool} {e : VS.Env → Sto → Res D} {ρ : VS.Env} {S : Sto} {l : List D} (h : ri ρ S = .ok l S) : rLc ri vs g t e ρ S = lcL g t e (wipeE ρ vs) l [] S := by simp [h]
theorem rAll_ok {r : VS.Env → Sto → Res (List D)} {ρ : VS.Env} {S : Sto} {l : List D} {p : D → Bool} (h : r ρ S = .ok (l.map fun d => .bl (p d)) S) : rRet (rCl allD (rCons (rUp r) rNil)) ρ S = .rt (.bl (l.all p)) S := by simp [h, allD_map, optR]
theorem t1 (v a b c : Sl) (l : List D) (S : Sto) (h1 : 1 ≤ l.length) (h : l.length ≤ 9) : (rCl rangeD (rCons (rBin subD (rCl lenD (rCons (rVar 1) rNil)) (rC (.int 1))) rNil)) [v, .val (.tup l), a, b] S = .ok ((List.range (l.length - 1)).map fun (i : Nat) => .int (i : Int)) S := by
  have e2 : (((l.length : Int)) - 1) = ((l.length - 1 : Nat) : Int) := by omega
  have hr := rangeD_nat (l.length - 1) (by omega)
  rw [← e2] at hr
  simp only [rCl, rCons, rBin, rVar, rNil, rC, Res.bind_ok, List.getElem?_cons_succ, List.getElem?_cons_zero, lenD, optR, subD, iBin, if_true, hr]
theorem t2 (v a b : Sl) (zs : List (List Int)) (S : Sto) (h1 : 1 ≤ zs.length) (h : zs.length ≤ 9) : rRet (rCl allD (rCons (rUp (rLc (rCl rangeD (rCons (rBin subD (rCl lenD (rCons (rVar 1) rNil)) (rC (.int 1))) rNil)) [3] (gN 3) rYes (rBin ltQ (rBin ixD (rVar 1) (rVar 3)) (rBin ixD (rVar 1) (rBin addD (rVar 3) (rC (.int 1))))))) rNil)) [v, .val (.tup (zs.map tupI)), a, b] S = .rt (.bl (adjB zs)) S := by
  rw [← adjP_all]
  refine rAll_ok ?_
  have hl : (zs.map tupI).length = zs.length := List.length_map ..
  rw [rLc_ok (t1 v a b b (zs.map tupI) S (by omega) (by omega)), hl]
  refine lcL_map _ _ ?_ ?_
  · intro y hy
    obtain ⟨i, hi, rfl⟩ := List.mem_map.mp hy
    have hi := List.mem_range.mp hi
    refine ⟨_, rfl, ?_⟩
    simp [wipeE, optR, addD, tup_at (zs := zs) (i := i) (by omega)]
    have e3 := tup_at (zs := zs) (i := i + 1) (by omega)
    rw [show (((i + 1 : Nat)) : Int) = (i : Int) + 1 by omega] at e3
    simp [e3, lt_tupI, adjP]
  · rw [List.length_map, List.length_range]
    exact Nat.le_trans (by omega) nine_lim
theorem e_is_lot_value {m n : Nat} {d : D} (x : D) (S : Sto) (h : rowB d = true) (hx : gd m n x = true) (hm : m ≤ lim) : C_is_lot_value [d, x] S = .ok (.bl (lotB (evD d) x)) S := by
  rw [u_is_lot_value]
  have E := eok h
  have e1 := e_has_items x 1 9 S hx
  cases x with
  | tup l =>
    obtain ⟨j, rfl, hl, hg⟩ := gd_tup hx
    cases hb : itemsB 1 9 (.tup l) with
    | false =>
      simp [e1, hb, asB, optR]
      cases hq : lotB (evD d) (.tup l) with
      | false => rfl
      | true => rw [lotB_le E hq] at hb; cases hb
    | true =>
      have hh : (rLc (rItems (rVar 1)) [2] (gN 2) rYes (rCall C_is_stand_value (rCons (rVar 0) (rCons (rVar 2) rNil)))) [.val d, .val (.tup l), .un, .un] S = .ok (l.map fun y => .bl (inE (evD d) y)) S := by
        rw [rLc_ok (l := l) (by simp [itemsD, optR])]
        refine lcL_map _ _ ?_ (by omega)
        intro y hy
        refine ⟨_, rfl, ?_⟩
        simp [wipeE]
        exact e_is_stand y S h (hg y hy)
      cases hq : l.all (inE (evD d)) with
      | false =>
        refine (congrArg resOf (rSeq_rt (d := .bl false) (S' := S) ?_)).trans ?_
        · simp only [rIfS, rOr, rNot, rB, rCall, rCons, rVar, rC, rNil, Res.bind_ok, List.getElem?_cons_succ, List.getElem?_cons_zero, e1, hb, asB, optR, rCl, rUp, hh, allD_map, hq, rRet, Res.thenS_ok, Bool.not_true, Bool.not_false, if_true, Bool.false_eq_true, if_false]
        · rw [lotB_inE hq]; rfl
      | true =>
        obtain ⟨zs, rfl, hz, ha⟩ := inE_all hq
        have hz0 : zs.isEmpty = false := by
          cases zs with
          | nil => simp [itemsB] at hb
          | cons _ _ => rfl
        have h9 : 1 ≤ zs.length ∧ zs.length ≤ 9 := by
          simp [itemsB] at hb
          omega
        refine (congrArg resOf (rSeq_nx (ρ' := [.val d, .val (.tup (zs.map tupI)), .un, .un]) (S' := S) ?_)).trans ?_
        · simp only [rIfS, rOr, rNot, rB, rCall, rCons, rVar, rC, rNil, Res.bind_ok, List.getElem?_cons_succ, List.getElem?_cons_zero, e1, hb, asB, optR, rCl, rUp, hh, allD_map, hq, rRet, rNext, Res.thenS_ok, Bool.not_true, Bool.not_false, if_true, Bool.false_eq_true, if_false]
        · rw [t2 _ _ _ _ _ h9.1 h9.2, lotB_map ha, hz0, E.adj hz]
          simp
  | _ => first | (simp [itemsB, e1, asB, optR, lotB]; done) | (exfalso; cases n <;> simp [gd] at hx; done)
set_option maxHeartbeats 4000000
theorem ints_of_whole : ∀ {l : List D}, l.all wholeB = true → ∃ z : List Int, l = z.map D.int
  | [], _ => ⟨[], rfl⟩
  | d :: l, h => by
    simp at h
    obtain ⟨z, e⟩ := ints_of_whole (l := l) (by simpa using h.2)
    cases d <;> simp [wholeB] at h
    rename_i i
    exact ⟨i :: z, by rw [e]; rfl⟩
theorem whole_of_ints (z : List Int) : (z.map D.int).all wholeB = true := by
  simp [wholeB]
theorem inE_whole {E : List (List Int)} {l : List D} (h : l.all wholeB = false) : inE E (.tup l) = false := by
  simp only [inE]
  cases e : intsOf l with
  | none => rfl
  | some z =>
    rw [intsOf_eq e, whole_of_ints] at h
    cases h
theorem eqBs_ints : ∀ a b : List Int, eqBs (a.map .int) (b.map .int) = (a == b)
  | [], [] => rfl
  | [], _ :: _ => rfl
  | _ :: _, [] => rfl
  | x :: a, y :: b => by simp [eqBs, eqB, eqBs_ints a b]
theorem eqB_tupI (a b : List Int) : eqB (tupI a) (tupI b) = (a == b) := by
  simp [tupI, eqB, eqBs_ints]
theorem eqBs_tupI : ∀ a b : List (List Int), eqBs (a.map tupI) (b.map tupI) = (a == b)
  | [], [] => rfl
  | [], _ :: _ => rfl
  | _ :: _, [] => rfl
  | x :: a, y :: b => by simp [eqBs, eqB_tupI, eqBs_tupI a b]
theorem shp_tupI (a : List (List Int)) : shp (.lst (a.map tupI)) = true ∧ shp (.tup (a.map tupI)) = true := by
  have g : ∀ z : List Int, okD (tupI z) = true ∧ dep (tupI z) ≤ 1 := by
    intro z
    simp only [tupI, okD, okDs_all, dep]
    refine ⟨by simp [okD], ?_⟩
    have := deps_le (n := 0) (l := z.map D.int) (by intro d hd; obtain ⟨i, -, rfl⟩ := List.mem_map.mp hd; simp [dep])
    omega
  have h2 := deps_le (n := 1) (l := a.map tupI) (by intro d hd; obtain ⟨z, -, rfl⟩ := List.mem_map.mp hd; exact (g z).2)
  have h1 : okDs (a.map tupI) = true := by
    rw [okDs_all, List.all_eq_true]
    intro d hd
    obtain ⟨z, -, rfl⟩ := List.mem_map.mp hd
    exact (g z).1
  unfold shp
  simp only [okD, dep, h1, Bool.true_and, decide_eq_true_eq]
  refine ⟨?_, ?_⟩ <;> first | omega | (simp; omega)
theorem notIn_tupI (z : List Int) (E : List (List Int)) : notInD (tupI z) (.lst (E.map tupI)) = some (.bl (!E.contains z)) := by
  have a1 : shp (tupI z) = true := by
    have := (shp_flat (l := z.map D.int) (by intro d hd; obtain ⟨i, -, rfl⟩ := List.mem_map.mp hd; exact ⟨i, rfl⟩)).2
    exact this
  have e : ((E.map tupI).any fun y => eqB y (tupI z)) = E.contains z := by
    induction E with
    | nil => rfl
    | cons y E ih =>
      rw [List.map_cons, List.any_cons, ih, eqB_tupI, List.contains_cons]
      congr 1
      rw [Bool.eq_iff_iff]
      simp only [beq_iff_eq]
      exact eq_comm
  simp only [notInD, inD, a1, (shp_tupI E).1, Bool.and_self, if_true, e]
set_option maxHeartbeats 4000000
theorem sortSet_map {E zs : List (List Int)} (k : EOK E) (hz : ∀ z ∈ zs, z ∈ E) (hl : zs.length < 64) : sortSetD (.tup (zs.map tupI)) = some ((sortU zs).map tupI) := by
  obtain ⟨d, hk⟩ := k.key
  have h : keysOk zs = true := by
    unfold keysOk
    simp only [Bool.and_eq_true, decide_eq_true_eq, List.all_eq_true]
    refine ⟨hl, fun z hz' => ?_⟩
    have e : dOf zs = d := by
      cases zs with
      | nil => cases hz'
      | cons y zs =>
        have := keyOk_bd (hk y (hz y (by simp)))
        exact this.1
    rw [e]
    exact hk z (hz z hz')
  simp [sortSetD, itemsD, tupsOf_map, h]
set_option maxHeartbeats 4000000
def sortN : D → Int
  | .bl _ => 1
  | .int _ => 2
  | .str _ => 3
  | .lst _ => 4
  | .tup _ => 5
  | _ => 6
theorem e_sort {m n : Nat} (d : D) (S : Sto) (h : gd m n d = true) : C__law_sort [d] S = .ok (.int (sortN d)) S := by
  rw [u__law_sort]
  cases d <;> simp [isT, optR, asB, sortN]
  all_goals (cases n <;> simp [gd] at h; done)
theorem same_bl (k : Nat) (b : Bool) (S : Sto) : C__law_same (k + 1) [.bl b, .bl b] S = .ok (.bl true) S := by
  rw [u__law_same]
  simp [e_sort (m := 0) (n := 0) (.bl b) S (by simp [gd]), sortN, optR, asB, gtI, ltI, iBin, eqD, shp, okD, dep, eqB]
theorem same_int (k : Nat) (i : Int) (S : Sto) : C__law_same (k + 1) [.int i, .int i] S = .ok (.bl true) S := by
  rw [u__law_same]
  simp [e_sort (m := 0) (n := 0) (.int i) S (by simp [gd]), sortN, optR, asB, gtI, ltI, iBin]
set_option maxHeartbeats 4000000
theorem lcL_none {g : D → VS.Env → Option VS.Env} {t : VS.Env → Sto → Res Bool} {e : VS.Env → Sto → Res D} {ρ : VS.Env} {S : Sto} : ∀ (l acc : List D), (∀ d ∈ l, ∃ ρ1, g d ρ = some ρ1 ∧ t ρ1 S = .ok false S) → lcL g t e ρ l acc S = .ok acc S
  | [], acc, _ => rfl
  | d :: l, acc, h => by
    obtain ⟨ρ1, h1, h2⟩ := h d (List.mem_cons_self ..)
    unfold lcL
    simp [h1, h2]
    exact lcL_none l acc fun x hx => h x (List.mem_cons_of_mem _ hx)
theorem enumF_mem {l : List D} {k : Nat} {y : D} (h : y ∈ enumF k l) : ∃ i d, l[i]? = some d ∧ y = .tup [.int ((k + i : Nat) : Int), d] := by
  obtain ⟨i, hi⟩ := List.mem_iff_getElem?.mp h
  rw [enumF_get] at hi
  cases e : l[i]? with
  | none => rw [e] at hi; simp at hi
  | some d => rw [e] at hi; simp at hi; exact ⟨i, d, e, by rw [← hi]; simp⟩
theorem same_seq {m n : Nat} (k : Nat) (l : List D) (S : Sto) (hm : m ≤ lim) (h : ∀ d ∈ l, C__law_same k [d, d] S = .ok (.bl true) S) :
    (gd m n (.tup l) = true → C__law_same (k + 1) [.tup l, .tup l] S = .ok (.bl true) S) ∧ (gd m n (.lst l) = true → C__law_same (k + 1) [.lst l, .lst l] S = .ok (.bl true) S) := by
  constructor
  · intro hg
    rw [u__law_same]
    simp [e_sort _ S hg, sortN, optR, asB, gtI, ltI, iBin, lenD, enumD, wipeE]
    rw [lcL_none]
    · simp [eqD_lst_nil shp_nil.1]
    · intro y hy
      obtain ⟨i, d, e, rfl⟩ := enumF_mem hy
      refine ⟨_, rfl, ?_⟩
      obtain ⟨hi, e2⟩ := List.getElem?_eq_some_iff.mp e
      simp [ixD, L2.atI, L2.ixN, hi, optR, e2, h d (List.mem_of_getElem? e), asB]
  · intro hg
    rw [u__law_same]
    simp [e_sort _ S hg, sortN, optR, asB, gtI, ltI, iBin, lenD, enumD, wipeE]
    rw [lcL_none]
    · simp [eqD_lst_nil shp_nil.1]
    · intro y hy
      obtain ⟨i, d, e, rfl⟩ := enumF_mem hy
      refine ⟨_, rfl, ?_⟩
      obtain ⟨hi, e2⟩ := List.getElem?_eq_some_iff.mp e
      simp [ixD, L2.atI, L2.ixN, hi, optR, e2, h d (List.mem_of_getElem? e), asB]
theorem same_tupI (k : Nat) (z : List Int) (S : Sto) (hz : z.length ≤ lim) : C__law_same (k + 2) [tupI z, tupI z] S = .ok (.bl true) S := by
  refine (same_seq (m := z.length) (n := 1) (k + 1) (z.map .int) S hz fun d hd => ?_).1 ?_
  · obtain ⟨i, -, rfl⟩ := List.mem_map.mp hd
    exact same_int k i S
  · simp [gd]
theorem same_ev (k : Nat) (zs : List (List Int)) (S : Sto) (hz : ∀ z ∈ zs, z.length ≤ lim) (hl : zs.length ≤ lim) : C__law_same (k + 3) [.lst (zs.map tupI), .lst (zs.map tupI)] S = .ok (.bl true) S := by
  refine (same_seq (m := lim) (n := 2) (k + 2) (zs.map tupI) S (Nat.le_refl _) fun d hd => ?_).2 ?_
  · obtain ⟨z, h, rfl⟩ := List.mem_map.mp hd
    exact same_tupI k z S (hz z h)
  · simp [gd, tupI, hl]
    exact hz
end Gk09

set_option maxHeartbeats 4000000
namespace VS
open PySem PySem.Spec PyProof.Rows L2
/-- a statement that goes on, or answers -/
inductive okFl : Fl → (Env → Sto → Prop) → (D → Sto → Prop) → Prop where
  | nx {ρ : Env} {S : Sto} {Qn : Env → Sto → Prop} {Qr : D → Sto → Prop} (h : Qn ρ S) : okFl (.nx ρ S) Qn Qr
  | rt {d : D} {S : Sto} {Qn : Env → Sto → Prop} {Qr : D → Sto → Prop} (h : Qr d S) : okFl (.rt d S) Qn Qr
theorem okR_congr {α : Type} {r r' : Res α} {P : α → Sto → Prop} (h : r = r') : okR r P = okR r' P := by rw [h]
theorem okFl_congr {f f' : Fl} {Qn : Env → Sto → Prop} {Qr : D → Sto → Prop} (h : f = f') : okFl f Qn Qr = okFl f' Qn Qr := by rw [h]
@[simp] theorem okR_ok {α : Type} (a : α) (S : Sto) (P : α → Sto → Prop) : okR (.ok a S) P = P a S := propext ⟨fun h => by cases h with | ok h => exact h, .ok⟩
@[simp] theorem okR_stuck {α : Type} (P : α → Sto → Prop) : okR (.stuck : Res α) P = False := propext ⟨fun h => (by cases h), False.elim⟩
@[simp] theorem okR_exc {α : Type} (x : Exn) (S : Sto) (P : α → Sto → Prop) : okR (.exc x S : Res α) P = False := propext ⟨fun h => (by cases h), False.elim⟩
@[simp] theorem okFl_nx (ρ : Env) (S : Sto) (Qn : Env → Sto → Prop) (Qr : D → Sto → Prop) : okFl (.nx ρ S) Qn Qr = Qn ρ S := propext ⟨fun h => by cases h with | nx h => exact h, .nx⟩
@[simp] theorem okFl_rt (d : D) (S : Sto) (Qn : Env → Sto → Prop) (Qr : D → Sto → Prop) : okFl (.rt d S) Qn Qr = Qr d S := propext ⟨fun h => by cases h with | rt h => exact h, .rt⟩
@[simp] theorem okFl_stuck (Qn : Env → Sto → Prop) (Qr : D → Sto → Prop) : okFl .stuck Qn Qr = False := propext ⟨fun h => (by cases h), False.elim⟩
@[simp] theorem okFl_exc (x : Exn) (S : Sto) (Qn : Env → Sto → Prop) (Qr : D → Sto → Prop) : okFl (.exc x S) Qn Qr = False := propext ⟨fun h => (by cases h), False.elim⟩
@[simp] theorem okFl_bk (ρ : Env) (S : Sto) (Qn : Env → Sto → Prop) (Qr : D → Sto → Prop) : okFl (.bk ρ S) Qn Qr = False := propext ⟨fun h => (by cases h), False.elim⟩
@[simp] theorem okFl_ct (ρ : Env) (S : Sto) (Qn : Env → Sto → Prop) (Qr : D → Sto → Prop) : okFl (.ct ρ S) Qn Qr = False := propext ⟨fun h => (by cases h), False.elim⟩
@[simp ↓] theorem okR_bind {α β : Type} (r : Res α) (k : α → Sto → Res β) (P : β → Sto → Prop) : okR (r.bind k) P = okR r (fun a S => okR (k a S) P) := by cases r <;> simp
@[simp ↓] theorem okR_nox {α : Type} (r : Res α) (P : α → Sto → Prop) : okR r.nox P = okR r P := by
  cases r with
  | exc x S => rw [okR_exc]; exact okR_stuck P
  | _ => rfl
@[simp ↓] theorem okR_resOf (f : Fl) (P : D → Sto → Prop) : okR (resOf f) P = okFl f (fun _ S => P .non S) P := by cases f <;> simp [resOf]
@[simp ↓] theorem okFl_thenS {α : Type} (r : Res α) (k : α → Sto → Fl) (Qn : Env → Sto → Prop) (Qr : D → Sto → Prop) : okFl (r.thenS k) Qn Qr = okR r (fun a S => okFl (k a S) Qn Qr) := by cases r <;> simp
@[simp ↓] theorem okFl_seq (a b : RS) (ρ : Env) (S : Sto) (Qn : Env → Sto → Prop) (Qr : D → Sto → Prop) : okFl (rSeq a b ρ S) Qn Qr = okFl (a ρ S) (fun ρ' S' => okFl (b ρ' S') Qn Qr) Qr := by
  unfold rSeq; cases a ρ S <;> simp
@[simp ↓] theorem okFl_ite (c : Prop) {_ : Decidable c} (a b : Fl) (Qn : Env → Sto → Prop) (Qr : D → Sto → Prop) : okFl (if c then a else b) Qn Qr = if c then okFl a Qn Qr else okFl b Qn Qr := by split <;> rfl
@[simp ↓] theorem okR_ite {α : Type} (c : Prop) {_ : Decidable c} (a b : Res α) (P : α → Sto → Prop) : okR (if c then a else b) P = if c then okR a P else okR b P := by split <;> rfl
theorem thenS_congr {α : Type} {r r' : Res α} {k : α → Sto → Fl} (h : r = r') : r.thenS k = r'.thenS k := by rw [h]
theorem bind_congr {α β : Type} {r r' : Res α} {k : α → Sto → Res β} (h : r = r') : r.bind k = r'.bind k := by rw [h]
@[simp ↓] theorem okFl_fz (i : Nat) (f : Fl) (Qn : Env → Sto → Prop) (Qr : D → Sto → Prop) : okFl (f.fz i) Qn Qr = okFl f (fun ρ S => Qn (fzAt i ρ) S) Qr := by cases f <;> simp [Fl.fz]
@[simp] theorem le_lim (n : Nat) : n ≤ lim ↔ n ≤ 1000000 := Iff.rfl
@[simp] theorem lt_lim (n : Nat) : n < lim ↔ n < 1000000 := Iff.rfl
theorem okR_mono {α : Type} {r : Res α} {P Q : α → Sto → Prop} (h : okR r P) (m : ∀ a S, P a S → Q a S) : okR r Q := by
  cases h with
  | ok h => exact .ok (m _ _ h)
theorem okFl_mono {f : Fl} {Qn Qn' : Env → Sto → Prop} {Qr Qr' : D → Sto → Prop} (h : okFl f Qn Qr) (m : ∀ ρ S, Qn ρ S → Qn' ρ S) (m' : ∀ d S, Qr d S → Qr' d S) : okFl f Qn' Qr' := by
  cases h with
  | nx h => exact .nx (m _ _ h)
  | rt h => exact .rt (m' _ _ h)
/-- a loop by what holds with the items that are left -/
theorem okFl_for {g : D → Env → Option Env} {b : RS} (I : List D → Env → Sto → Prop) {Qn : Env → Sto → Prop} {Qr : D → Sto → Prop} : ∀ {l : List D} {ρ : Env} {S : Sto},
    (∀ d l ρ S, I (d :: l) ρ S → ∃ ρ1, g d ρ = some ρ1 ∧ okFl (b ρ1 S) (I l) Qr) → (∀ ρ S, I [] ρ S → Qn ρ S) → I l ρ S → okFl (forL g b l ρ S) Qn Qr
  | [], ρ, S, h, e, i => .nx (e ρ S i)
  | d :: l, ρ, S, h, e, i => by
    obtain ⟨ρ1, h1, h2⟩ := h d l ρ S i
    unfold forL
    simp only [h1]
    cases eb : b ρ1 S with
    | nx ρ2 S2 =>
      rw [eb, okFl_nx] at h2
      exact okFl_for I h e h2
    | rt d S2 => rw [eb, okFl_rt] at h2; exact .rt h2
    | bk _ _ => rw [eb, okFl_bk] at h2; exact h2.elim
    | ct _ _ => rw [eb, okFl_ct] at h2; exact h2.elim
    | exc _ _ => rw [eb, okFl_exc] at h2; exact h2.elim
    | stuck => rw [eb, okFl_stuck] at h2; exact h2.elim
/-- the same, the items known to be of a list -/
theorem okFl_forM {g : D → Env → Option Env} {b : RS} (I : Env → Sto → Prop) {Qn : Env → Sto → Prop} {Qr : D → Sto → Prop} {l : List D} {ρ : Env} {S : Sto}
    (h : ∀ d ∈ l, ∀ ρ S, I ρ S → ∃ ρ1, g d ρ = some ρ1 ∧ okFl (b ρ1 S) I Qr) (e : ∀ ρ S, I ρ S → Qn ρ S) (i : I ρ S) : okFl (forL g b l ρ S) Qn Qr :=
  okFl_for (fun l' ρ S => (∀ d ∈ l', d ∈ l) ∧ I ρ S) (fun d l' ρ S ⟨m, i⟩ => by
    obtain ⟨ρ1, h1, h2⟩ := h d (m d (List.mem_cons_self ..)) ρ S i
    exact ⟨ρ1, h1, okFl_mono h2 (fun ρ S z => ⟨fun x hx => m x (List.mem_cons_of_mem _ hx), z⟩) fun _ _ z => z⟩) (fun ρ S i => e ρ S i.2) ⟨fun _ h => h, i⟩
/-- a comprehension -/
theorem okR_lc {g : D → Env → Option Env} {t : Env → Sto → Res Bool} {e : Env → Sto → Res D} {ρ : Env} (I : List D → List D → Sto → Prop) {P : List D → Sto → Prop} : ∀ {l acc : List D} {S : Sto},
    (∀ d l acc S, I (d :: l) acc S → ∃ ρ1, g d ρ = some ρ1 ∧ okR (t ρ1 S) fun c S1 => if c = true then okR (e ρ1 S1) fun y S2 => acc.length < lim ∧ I l (acc ++ [y]) S2 else I l acc S1) → (∀ acc S, I [] acc S → P acc S) → I l acc S → okR (lcL g t e ρ l acc S) P
  | [], acc, S, h, f, i => .ok (f acc S i)
  | d :: l, acc, S, h, f, i => by
    obtain ⟨ρ1, h1, h2⟩ := h d l acc S i
    unfold lcL
    rw [h1]
    show okR ((t ρ1 S).nox.bind _) P
    rw [okR_bind, okR_nox]
    refine okR_mono h2 fun c S1 z => ?_
    cases c with
    | false => exact okR_lc I h f (by simpa using z)
    | true =>
      simp only [if_true] at z ⊢
      rw [okR_bind, okR_nox]
      refine okR_mono z fun y S2 ⟨z1, z2⟩ => ?_
      rw [if_pos z1]
      exact okR_lc I h f z2
section
variable {α : Type} {P : α → Sto → Prop} {PD : D → Sto → Prop} {PB : Bool → Sto → Prop} {PL : List D → Sto → Prop} {Qn : Env → Sto → Prop} {Qr : D → Sto → Prop} (ρ : Env) (S : Sto)
@[simp ↓] theorem w_and (a b : Env → Sto → Res Bool) : okR (rAnd a b ρ S) PB = okR (a ρ S) (fun c S1 => if c = true then okR (b ρ S1) PB else PB false S1) := by
  unfold rAnd; rw [okR_bind]; congr 1; funext c S1; rw [okR_ite]; simp only [okR_ok]
@[simp ↓] theorem w_or (a b : Env → Sto → Res Bool) : okR (rOr a b ρ S) PB = okR (a ρ S) (fun c S1 => if c = true then PB true S1 else okR (b ρ S1) PB) := by
  unfold rOr; rw [okR_bind]; congr 1; funext c S1; rw [okR_ite]; simp only [okR_ok]
@[simp ↓] theorem w_not (a : Env → Sto → Res Bool) : okR (rNot a ρ S) PB = okR (a ρ S) (fun c S1 => PB (!c) S1) := by
  unfold rNot; rw [okR_bind]; simp only [okR_ok]
@[simp ↓] theorem w_if {α : Type} {P : α → Sto → Prop} (t : Env → Sto → Res Bool) (a b : Env → Sto → Res α) : okR (rIf t a b ρ S) P = okR (t ρ S) (fun c S1 => if c = true then okR (a ρ S1) P else okR (b ρ S1) P) := by
  unfold rIf; rw [okR_bind]; congr 1; funext c S1; rw [okR_ite]
@[simp ↓] theorem w_andV (a b : Env → Sto → Res D) : okR (rAndV a b ρ S) PD = okR (a ρ S) (fun c S1 => match c with | .bl c => if c = true then okR (b ρ S1) PD else PD (.bl false) S1 | _ => False) := by
  unfold rAndV; rw [okR_bind]; congr 1; funext c S1; cases c <;> first | (simp only [okR_stuck]; done) | (rename_i c; cases c <;> simp)
@[simp ↓] theorem w_orV (a b : Env → Sto → Res D) : okR (rOrV a b ρ S) PD = okR (a ρ S) (fun c S1 => match c with | .bl c => if c = true then PD (.bl true) S1 else okR (b ρ S1) PD | _ => False) := by
  unfold rOrV; rw [okR_bind]; congr 1; funext c S1; cases c <;> first | (simp only [okR_stuck]; done) | (rename_i c; cases c <;> simp)
@[simp ↓] theorem w_bin {α γ δ : Type} {P : δ → Sto → Prop} (g : α → γ → Option δ) (a : Env → Sto → Res α) (b : Env → Sto → Res γ) : okR (rBin g a b ρ S) P = okR (a ρ S) (fun x S1 => okR (b ρ S1) fun y S2 => okR (optR (g x y) S2) P) := by
  unfold rBin; rw [okR_bind]; congr 1; funext c S1; rw [okR_bind]
@[simp ↓] theorem w_un (g : D → Option D) (a : Env → Sto → Res D) : okR (rUn g a ρ S) PD = okR (a ρ S) (fun x S1 => okR (optR (g x) S1) PD) := by
  unfold rUn; rw [okR_bind]
@[simp ↓] theorem w_B (a : Env → Sto → Res D) : okR (rB a ρ S) PB = okR (a ρ S) (fun x S1 => okR (optR (asB x) S1) PB) := by
  unfold rB; rw [okR_bind]
@[simp ↓] theorem w_cl {α : Type} {P : α → Sto → Prop} (g : List D → Option α) (a : Env → Sto → Res (List D)) : okR (rCl g a ρ S) P = okR (a ρ S) (fun x S1 => okR (optR (g x) S1) P) := by
  unfold rCl; rw [okR_bind]
@[simp ↓] theorem w_call (f : List D → Sto → Res D) (a : Env → Sto → Res (List D)) : okR (rCall f a ρ S) PD = okR (a ρ S) (fun x S1 => okR (f x S1) PD) := by
  unfold rCall; rw [okR_bind]
@[simp ↓] theorem w_cons (a : Env → Sto → Res D) (r : Env → Sto → Res (List D)) : okR (rCons a r ρ S) PL = okR (a ρ S) (fun x S1 => okR (r ρ S1) fun xs S2 => PL (x :: xs) S2) := by
  unfold rCons; rw [okR_bind]; congr 1; funext c S1; rw [okR_bind]; simp only [okR_ok]
@[simp ↓] theorem w_tup (r : Env → Sto → Res (List D)) : okR (rTup r ρ S) PD = okR (r ρ S) (fun x S1 => PD (.tup x) S1) := by
  unfold rTup; rw [okR_bind]; simp only [okR_ok]
@[simp ↓] theorem w_up (r : Env → Sto → Res (List D)) : okR (rUp r ρ S) PD = okR (r ρ S) (fun x S1 => PD (.lst x) S1) := by
  unfold rUp; rw [okR_bind]; simp only [okR_ok]
@[simp ↓] theorem w_fz (r : Env → Sto → Res (List D)) : okR (rFz r ρ S) PD = okR (r ρ S) (fun x S1 => PD (.lst x) S1) := by
  unfold rFz; rw [okR_bind]; simp only [okR_ok]
@[simp ↓] theorem w_chk (r : Env → Sto → Res (List D)) : okR (chkLen r ρ S) PL = okR (r ρ S) (fun x S1 => x.length ≤ lim ∧ PL x S1) := by
  unfold chkLen; rw [okR_bind]; congr 1; funext c S1; rw [okR_ite]; by_cases h : c.length ≤ lim <;> simp [h]
@[simp ↓] theorem w_isT (T : String) (a : Env → Sto → Res D) : okR (rIsT T a ρ S) PD = okR (a ρ S) (fun x S1 => okR (optR ((isT T x).map .bl) S1) PD) := by
  unfold rIsT; rw [okR_bind]
@[simp ↓] theorem w_isTs (T : List String) (a : Env → Sto → Res D) : okR (rIsTs T a ρ S) PD = okR (a ρ S) (fun x S1 => okR (optR ((isTs x T).map .bl) S1) PD) := by
  unfold rIsTs; rw [okR_bind]
@[simp ↓] theorem w_items (a : Env → Sto → Res D) : okR (rItems a ρ S) PL = okR (a ρ S) (fun x S1 => okR (optR (itemsD x) S1) PL) := by
  unfold rItems; rw [okR_bind]
@[simp ↓] theorem w_sl {α : Type} {P : α → Sto → Prop} (g : D → Option Int → Option Int → Option α) (r : Env → Sto → Res D) (l h : Env → Sto → Res (Option Int)) : okR (rSl g r l h ρ S) P = okR (r ρ S) (fun d S1 => okR (l ρ S1) fun lo S2 => okR (h ρ S2) fun hi S3 => okR (optR (g d lo hi) S3) P) := by
  unfold rSl; rw [okR_bind]; congr 1; funext c S1; rw [okR_bind]; congr 1; funext c S1; rw [okR_bind]
@[simp ↓] theorem w_sortset (r : Env → Sto → Res D) : okR (rSortSet r ρ S) PL = okR (r ρ S) (fun d S1 => okR (optR (sortSetD d) S1) PL) := by
  unfold rSortSet; rw [okR_bind]
@[simp ↓] theorem w_ixO (a b : Env → Sto → Res D) : okR (rIxO a b ρ S) PD = okR (a ρ S) (fun x S1 => okR (b ρ S1) fun y S2 => okR (optR (ixO S2 x y) S2) PD) := by
  unfold rIxO; rw [okR_bind]; congr 1; funext c S1; rw [okR_bind]
@[simp ↓] theorem w_ifS (t : Env → Sto → Res Bool) (a b : RS) : okFl (rIfS t a b ρ S) Qn Qr = okR (t ρ S) (fun c S1 => if c = true then okFl (a ρ S1) Qn Qr else okFl (b ρ S1) Qn Qr) := by
  unfold rIfS; rw [okFl_thenS]; congr 1; funext c S1; rw [okFl_ite]
@[simp ↓] theorem w_setF (i : Nat) (r : Env → Sto → Res D) : okFl (rSetF i r ρ S) Qn Qr = okR (r ρ S) (fun d S1 => okFl (setE ρ i (.val d) S1) Qn Qr) := by
  unfold rSetF; rw [okFl_thenS]
@[simp ↓] theorem w_setO (i : Nat) (r : Env → Sto → Res (List D)) : okFl (rSetO i r ρ S) Qn Qr = okR (r ρ S) (fun d S1 => okFl (setE ρ i (.ol d) S1) Qn Qr) := by
  unfold rSetO; rw [okFl_thenS]
@[simp ↓] theorem w_ret (r : Env → Sto → Res D) : okFl (rRet r ρ S) Qn Qr = okR (r ρ S) Qr := by
  unfold rRet; rw [okFl_thenS]; simp only [okFl_rt]
@[simp ↓] theorem w_drop {α : Type} (r : Env → Sto → Res α) : okFl (rDrop r ρ S) Qn Qr = okR (r ρ S) (fun _ S1 => Qn ρ S1) := by
  unfold rDrop; rw [okFl_thenS]; simp only [okFl_nx]
@[simp ↓] theorem w_fzS (i : Nat) (r : RS) : okFl (rFzS i r ρ S) Qn Qr = okFl (r ρ S) (fun ρ S => Qn (fzAt i ρ) S) Qr := by
  unfold rFzS; rw [okFl_fz]
@[simp ↓] theorem w_for (ri : Env → Sto → Res (List D)) (g : D → Env → Option Env) (b : RS) : okFl (rFor ri g b ρ S) Qn Qr = okR (ri ρ S) (fun l S1 => okFl (forL g b l ρ S1) Qn Qr) := by
  unfold rFor; rw [okFl_thenS]
@[simp ↓] theorem w_lc (ri : Env → Sto → Res (List D)) (vs : List Nat) (g : D → Env → Option Env) (t : Env → Sto → Res Bool) (e : Env → Sto → Res D) : okR (rLc ri vs g t e ρ S) PL = okR (ri ρ S) (fun l S1 => okR (lcL g t e (wipeE ρ vs) l [] S1) PL) := by
  unfold rLc; rw [okR_bind]
end
/-- a run that ends well, by what it gives -/
theorem ok_of {α : Type} {r : Res α} {a : α} {S : Sto} (h : okR r fun x S' => x = a ∧ S' = S) : r = .ok a S := by
  obtain ⟨x, S', e, rfl, rfl⟩ := okR_iff.mp h
  exact e
end VS

set_option maxHeartbeats 4000000
namespace Gk09
open PySem PySem.Spec PyProof.Rows L2 VS
set_option maxHeartbeats 4000000
def DeckOk (S : Sto) (n m : Nat) : Prop := ∃ a b c : Int, S[n]? = some (.cell [.int a, .int b, .int c]) ∧ 0 ≤ b ∧ b < 2147483579 ∧ 0 ≤ c ∧ c + m ≤ 2 ^ 38
theorem DeckOk.le {S : Sto} {n m m' : Nat} (h : DeckOk S n m) (l : m' ≤ m) : DeckOk S n m' := by
  obtain ⟨a, b, c, h1, h2, h3, h4, h5⟩ := h
  exact ⟨a, b, c, h1, h2, h3, h4, by omega⟩
structure Pk (n m : Nat) (S S' : Sto) : Prop where
  ok : DeckOk S' n m
  len : S'.length = S.length
  fr : ∀ j, j ≠ n → S'[j]? = S[j]?
theorem Pk.trans {n m m' : Nat} {S S1 S2 : Sto} (a : Pk n m S S1) (b : Pk n m' S1 S2) : Pk n m' S S2 := ⟨b.ok, b.len.trans a.len, fun j h => (b.fr j h).trans (a.fr j h)⟩
theorem Pk.le {n m m' : Nat} {S S1 : Sto} (a : Pk n m S S1) (h : m' ≤ m) : Pk n m' S S1 := ⟨a.ok.le h, a.len, a.fr⟩
theorem Pk.refl {n m : Nat} {S : Sto} (h : DeckOk S n m) : Pk n m S S := ⟨h, rfl, fun _ _ => rfl⟩
theorem pk_set {n m : Nat} {S : Sto} {so : SO} (h : DeckOk (S.set n so) n m) : Pk n m S (S.set n so) := ⟨h, by simp, fun j hj => by rw [List.getElem?_set_ne (fun e => hj e.symm)]⟩
theorem e_deck (i t : Int) (S : Sto) (ht : 0 ≤ t) (ht' : t ≤ 100) : okR (C__law_deck [.int i, .int t] S) fun d S' => d = .obj S.length ∧ S'.length = S.length + 1 ∧ DeckOk S' S.length (2 ^ 37) ∧ ∀ j, j ≠ S.length → S'[j]? = S[j]? := by
  rw [u__law_deck]
  have hm : 0 ≤ i % 2147483579 ∧ i % 2147483579 < 2147483579 := ⟨Int.emod_nonneg _ (by decide), Int.emod_lt_of_pos _ (by decide)⟩
  have fr : ∀ (so : SO) (j : Nat), j ≠ S.length → (S ++ [so])[j]? = S[j]? := fun so j hj => by
    by_cases h : j < S.length
    · rw [List.getElem?_append_left h]
    · rw [List.getElem?_eq_none (by simp; omega), List.getElem?_eq_none (by omega)]
  by_cases h : (1000000000000000000 : Int) ≤ i
  · simp [powD, iBin, geI, optR, asB, h, subD, modD]
    exact ⟨⟨_, i % 2147483579, t, by simp; rfl, hm.1, hm.2, ht, by omega⟩, fr _⟩
  · simp [powD, iBin, geI, optR, asB, h, subD, modD]
    exact ⟨⟨_, i % 2147483579, t, by simp; rfl, hm.1, hm.2, ht, by omega⟩, fr _⟩
theorem cmul_l {i j : Int} (h : -(2 ^ 64) < i ∧ i < 2 ^ 64) : CMulI i j = true := by
  unfold CMulI
  simp only [Bool.or_eq_true, Bool.and_eq_true, decide_eq_true_eq]
  exact .inl h
theorem e_pick {n m : Nat} {S : Sto} (size : Int) (h : DeckOk S n (m + 1)) (h1 : 1 ≤ size) (h2 : size ≤ 1000000) : okR (C__law_pick [.obj n, .int size] S) fun d S' => Pk n m S S' ∧ ∃ v : Int, d = .int v ∧ 0 ≤ v ∧ v < size := by
  rw [u__law_pick]
  obtain ⟨a, b, c, e, h3, h4, h5, h6⟩ := h
  have hn : n < S.length := (List.getElem?_eq_some_iff.mp e).1
  have c1 : ∀ x : Int, CMulI 15485867 x = true := fun x => cmul_l (by decide)
  have c2 : ∀ x : Int, CMulI 7919 x = true := fun x => cmul_l (by decide)
  have hp : (0 : Int) < size := by omega
  have hq : size < 1073741824 := by omega
  by_cases ha : 1 < a
  · simp [ixO, e, optR, gtI, iBin, asB, ha, L2.atI, L2.ixN, VS.intD, modD, hp, divD, hq, setO]
    refine ⟨pk_set ⟨a / size, b, c, ?_, h3, h4, h5, by omega⟩, ?_⟩
    · rw [List.getElem?_set_self hn]
    · exact ⟨Int.emod_nonneg _ (by omega), Int.emod_lt_of_pos _ hp⟩
  · have k1 : (b + 15485867 * (c + 1)).natAbs < 18446744073709551616 := by omega
    have k2 : ∀ x : Int, 0 ≤ x → x < 2147483647 → (x + 7919 * (c + 1)).natAbs < 18446744073709551616 := fun x _ _ => by omega
    have k3 := k2 ((b + 15485867 * (c + 1)) ^ 5 % 2147483647) (Int.emod_nonneg _ (by decide)) (Int.emod_lt_of_pos _ (by decide))
    simp [ixO, e, optR, gtI, iBin, asB, ha, L2.atI, L2.ixN, VS.intD, modD, hp, divD, hq, setO, addD, addQ, List.getElem?_set_self hn, mulD, c1, c2, powD, k1, k3]
    refine ⟨pk_set ⟨a, b, c + 1, ?_, h3, h4, by omega, by omega⟩, ?_⟩
    · rw [List.getElem?_set_self hn]
    · exact ⟨Int.emod_nonneg _ (by omega), Int.emod_lt_of_pos _ hp⟩
theorem atI_of {l : List D} {v : Int} (h0 : 0 ≤ v) (h1 : v < l.length) : ∃ d, L2.atI l v = some d ∧ d ∈ l := by
  obtain ⟨k, rfl⟩ : ∃ k : Nat, v = k := ⟨v.toNat, by omega⟩
  have hk : k < l.length := by omega
  refine ⟨l[k], ?_, List.getElem_mem hk⟩
  simp [L2.atI, L2.ixN, hk]
theorem e_one {n m : Nat} {S : Sto} (l : List D) (h : DeckOk S n (m + 1)) (h1 : 1 ≤ l.length) (h2 : l.length ≤ 1000000) : okR (C__law_one [.obj n, .lst l] S) fun d S' => Pk n m S S' ∧ d ∈ l := by
  rw [u__law_one]
  simp [lenD, optR]
  refine okR_mono (e_pick (m := m) (l.length : Int) h (by omega) (by omega)) ?_
  rintro d S1 ⟨p, v, rfl, v0, v1⟩
  obtain ⟨x, e, hx⟩ := atI_of v0 v1
  simp [ixD, e]
  exact ⟨p, hx⟩
set_option maxHeartbeats 4000000
theorem rangeD_int {k : Int} (h0 : 0 ≤ k) (h1 : k < 1000000) : rangeD [.int k] = some ((List.range k.toNat).map fun (i : Nat) => .int (i : Int)) := by
  obtain ⟨n, rfl⟩ : ∃ n : Nat, k = n := ⟨k.toNat, by omega⟩
  rw [rangeD_nat n (by omega)]
  simp
def habOk (z : Int) (d : D) : Prop := ∃ b v, d = .tup [.bl b, .int v] ∧ 0 ≤ v ∧ v < z
def moodOk (k z : Int) (d : D) : Prop := ∃ l : List D, d = .tup l ∧ (l.length : Int) = k ∧ ∀ x ∈ l, habOk z x
theorem e_mood {n m : Nat} {S : Sto} {k z : Int} {a3 a4 : Sl} (hk : 1 ≤ k) (hk' : k ≤ 3) (hz : 1 ≤ z) (hz' : z ≤ 3) (h : DeckOk S n (m + 10)) :
    okR (rLc (rCl rangeD (rCons (rVar 1) rNil)) [5] (gN 5) rYes (rTup (chkLen (rCons (rBin ltI (rCall C__law_pick (rCons (rVar 0) (rCons (rC (.int 5)) rNil))) (rC (.int 2))) (rCons (rCall C__law_pick (rCons (rVar 0) (rCons (rVar 2) rNil))) rNil)))) [.val (.obj n), .val (.int k), .val (.int z), a3, a4, .un] S)
      fun l S' => Pk n m S S' ∧ (l.length : Int) = k ∧ ∀ x ∈ l, habOk z x := by
  have e : rangeD [.int k] = _ := rangeD_int (by omega) (by omega)
  simp [e, optR, wipeE]
  refine okR_lc (fun l acc S1 => Pk n (m + 2 * l.length) S S1 ∧ (acc.length : Int) + l.length = k ∧ ∀ x ∈ acc, habOk z x) ?_ ?_ ⟨?_, ?_, ?_⟩
  · rintro d l acc S1 ⟨p, hl, ha⟩
    refine ⟨_, rfl, ?_⟩
    simp
    refine okR_mono (e_pick (m := m + 2 * l.length + 1) 5 (p.ok.le (by simp; omega)) (by omega) (by omega)) ?_
    rintro _ S2 ⟨p2, v, rfl, v0, v1⟩
    simp [ltI, iBin, optR]
    refine okR_mono (e_pick (m := m + 2 * l.length) z p2.ok (by omega) (by omega)) ?_
    rintro _ S3 ⟨p3, u, rfl, u0, u1⟩
    simp at hl
    refine ⟨by omega, p.trans (p2.trans p3), by omega, fun x hx => ?_⟩
    rcases hx with hx | hx
    · exact ha x hx
    · exact ⟨_, u, hx, u0, u1⟩
  · rintro acc S1 ⟨p, hl, ha⟩
    exact ⟨by simpa using p, by simpa using hl, ha⟩
  · exact Pk.refl (h.le (by simp; omega))
  · simp; omega
  · simp
theorem guest_of {k z : Int} {l : List D} (hz : (l.length : Int) = z) (h1 : 1 ≤ z) (h3 : z ≤ 3) (hk : 1 ≤ k) (hk' : k ≤ 3) (h : ∀ x ∈ l, moodOk k z x) : guestB k (.tup l) = true ∧ gd 3 3 (.tup l) = true := by
  constructor
  · simp [guestB, itemsB, tallB, tlen]
    refine ⟨by omega, fun x hx => ?_⟩
    obtain ⟨q, rfl, hq, hh⟩ := h x hx
    simp [moodB, itemsB, tallB, hq]
    intro y hy
    obtain ⟨b, v, rfl, v0, v1⟩ := hh y hy
    simp [habitB, withinB]
    omega
  · simp [gd]
    refine ⟨by omega, fun x hx => ?_⟩
    obtain ⟨q, rfl, hq, hh⟩ := h x hx
    simp [gd]
    refine ⟨by omega, fun y hy => ?_⟩
    obtain ⟨b, v, rfl, v0, v1⟩ := hh y hy
    simp [gd]
theorem e_a_guest {n m : Nat} {S : Sto} {k : Int} (hk : 1 ≤ k) (hk' : k ≤ 3) (h : DeckOk S n (m + 40)) : okR (C__law_a_guest [.obj n, .int k] S) fun d S' => Pk n m S S' ∧ guestB k d = true ∧ gd 3 3 d = true := by
  rw [u__law_a_guest]
  simp
  refine okR_mono (e_one (m := m + 39) [.int 1, .int 2, .int 2, .int 3, .int 3] h (by simp) (by simp)) ?_
  rintro d S1 ⟨p, hd⟩
  have hz : ∃ z : Int, d = .int z ∧ 1 ≤ z ∧ z ≤ 3 := by
    simp at hd
    rcases hd with rfl | rfl | rfl | rfl | rfl <;> exact ⟨_, rfl, by decide, by decide⟩
  obtain ⟨z, rfl, hz, hz'⟩ := hz
  have e : rangeD [.int z] = _ := rangeD_int (by omega) (by omega)
  simp [rParP, e, optR, PV.sl]
  have hlen : (((List.range z.toNat).map fun (i : Nat) => D.int (i : Int)).length : Int) = z := by simp; omega
  refine okFl_for (fun l ρ S' => Pk n (m + 10 * l.length) S S' ∧ ∃ acc x, ρ = [.val (.obj n), .val (.int k), .val (.int z), .ol acc, x, .un] ∧ (acc.length : Int) + l.length = z ∧ ∀ x ∈ acc, moodOk k z x) ?_ ?_ ?_
  · rintro d l ρ S2 ⟨p2, acc, x, rfl, hl, ha⟩
    refine ⟨_, rfl, ?_⟩
    simp [-rLc, -w_lc, gN]
    refine okR_mono (e_mood (m := m + 10 * l.length) hk hk' hz hz' (p2.ok.le (by simp; omega))) ?_
    rintro ys S3 ⟨p3, hy, hh⟩
    simp [tupD, optR]
    simp at hl
    refine ⟨by omega, p2.trans p3, by omega, fun x hx => ?_⟩
    rcases hx with hx | hx
    · exact ha x hx
    · subst hx; exact ⟨ys, rfl, hy, hh⟩
  · rintro ρ S2 ⟨p2, acc, x, rfl, hl, ha⟩
    simp [fzAt, tupD]
    exact ⟨by simpa using p2, guest_of (by simpa using hl) hz hz' hk hk' ha⟩
  · refine ⟨p.le ?_, [], .un, rfl, by simpa using hlen, by simp⟩
    simp
    omega
set_option maxHeartbeats 4000000
theorem row_of1 {k : Int} {g : D} (h1 : 1 ≤ k) (h3 : k ≤ 3) (hg : guestB k g = true) (gg : gd 3 3 g = true) : rowB (.tup [.int k, .tup [g]]) = true ∧ gd 3 5 (.tup [.int k, .tup [g]]) = true := by
  refine ⟨by simp [rowB, withinB, itemsB, tallB, h1, h3, hg], ?_⟩
  simp [gd, gg]
theorem row_of2 {k : Int} {g g' : D} (h1 : 1 ≤ k) (h3 : k ≤ 3) (hg : guestB k g = true) (gg : gd 3 3 g = true) (hg' : guestB k g' = true) (gg' : gd 3 3 g' = true) : rowB (.tup [.int k, .tup [g, g']]) = true ∧ gd 3 5 (.tup [.int k, .tup [g, g']]) = true := by
  refine ⟨by simp [rowB, withinB, itemsB, tallB, h1, h3, hg, hg'], ?_⟩
  simp [gd, gg, gg']
theorem e_a_row {n m : Nat} {S : Sto} (h : DeckOk S n (m + 100)) : okR (C__law_a_row [.obj n] S) fun d S' => Pk n m S S' ∧ rowB d = true ∧ gd 3 5 d = true := by
  rw [u__law_a_row]
  simp
  refine okR_mono (e_pick (m := m + 99) 3 h (by omega) (by omega)) ?_
  rintro _ S1 ⟨p1, v, rfl, v0, v1⟩
  simp [addD, optR]
  refine okR_mono (e_a_guest (m := m + 59) (k := 1 + v) (by omega) (by omega) p1.ok) ?_
  rintro g S2 ⟨p2, hg, gg⟩
  refine okR_mono (e_pick (m := m + 58) 3 p2.ok (by omega) (by omega)) ?_
  rintro _ S3 ⟨p3, u, rfl, u0, u1⟩
  simp [optR, asB]
  by_cases hu : u = 0
  · simp [hu]
    exact ⟨(p1.trans (p2.trans p3)).le (by omega), row_of1 (by omega) (by omega) hg gg⟩
  · simp [hu]
    refine okR_mono (e_pick (m := m + 57) 5 p3.ok (by omega) (by omega)) ?_
    rintro _ S4 ⟨p4, x, rfl, x0, x1⟩
    simp [optR, asB]
    by_cases hx : x = 0
    · simp [hx]
      exact ⟨(p1.trans (p2.trans (p3.trans p4))).le (by omega), row_of2 (by omega) (by omega) hg gg hg gg⟩
    · simp [hx]
      refine okR_mono (e_a_guest (m := m + 17) (k := 1 + v) (by omega) (by omega) p4.ok) ?_
      rintro g' S5 ⟨p5, hg', gg'⟩
      exact ⟨(p1.trans (p2.trans (p3.trans (p4.trans p5)))).le (by omega), row_of2 (by omega) (by omega) hg gg hg' gg'⟩
def LotOk (E : List (List Int)) (d : D) : Prop := ∃ zs : List (List Int), d = .tup (zs.map tupI) ∧ zs ≠ [] ∧ zs.Sublist E
theorem shp_tupI1 (z : List Int) : shp (tupI z) = true := gd_shp (m := z.length) (n := 1) (by simp [gd, tupI]) (by decide)
theorem eqD_tupI (a b : List Int) : eqD (tupI a) (tupI b) = some (.bl (a == b)) := by
  simp [eqD, shp_tupI1, eqB_tupI]
theorem evK_pos : ∀ ns ∈ allNs, (evK ns).length ≥ 1 := by decide +kernel
theorem ev_len {d : D} (hd : rowB d = true) : (evD d).length ≤ 9 ∧ (evD d).length ≥ 1 := by
  obtain ⟨ns, hns, e, _⟩ := row_lens hd
  rw [e]
  exact ⟨(all_ok ns hns).2.1, evK_pos ns hns⟩
def LotI (d : D) (S : Sto) (n m : Nat) (z : List Int) (l acc : List D) (S' : Sto) : Prop := ∃ (E1 E2 zs : List (List Int)), evD d = E1 ++ E2 ∧ l = E2.map tupI ∧ Pk n (m + E2.length) S S' ∧ acc = zs.map tupI ∧ zs.Sublist E1 ∧ (z ∈ E1 → z ∈ zs)
theorem e_a_lot {n m : Nat} {S : Sto} {d : D} (hd : rowB d = true) (h : DeckOk S n (m + 20)) : okR (C__law_a_lot [.obj n, d] S) fun x S' => Pk n m S S' ∧ LotOk (evD d) x := by
  rw [u__law_a_lot]
  obtain ⟨hE1, hE2⟩ := ev_len hd
  have ne : evD d ≠ [] := by intro z; rw [z] at hE2; simp at hE2
  simp [e_law_every S hd]
  refine okR_mono (e_pick (m := m + 19) 3 h (by omega) (by omega)) ?_
  rintro _ S1 ⟨p1, v, rfl, v0, v1⟩
  simp [optR, asB]
  by_cases hv : v = 0
  · simp [hv, tupD, optR]
    exact ⟨p1.le (by omega), evD d, rfl, ne, List.Sublist.refl _⟩
  · simp [hv]
    refine okR_mono (e_one (m := m + 18) ((evD d).map tupI) p1.ok (by simp; omega) (by simp; omega)) ?_
    rintro s S2 ⟨p2, hs⟩
    obtain ⟨z, hz, rfl⟩ := List.mem_map.mp hs
    simp [itemsD, optR, wipeE]
    refine okR_lc (LotI d S n m z) ?_ ?_ ?_
    · rintro x l acc S' ⟨E1, E2, zs, hE, hl, p, rfl, hsub, hzz⟩
      cases E2 with
      | nil => simp at hl
      | cons e E2 =>
        simp at hl
        obtain ⟨rfl, rfl⟩ := hl
        refine ⟨_, rfl, ?_⟩
        have hlen : zs.length ≤ 9 := Nat.le_trans hsub.length_le (Nat.le_trans (by rw [hE]; simp) hE1)
        have keep : ∀ S'', Pk n (m + E2.length) S S'' → LotI d S n m z (E2.map tupI) (zs.map tupI ++ [tupI e]) S'' := fun S'' q =>
          ⟨E1 ++ [e], E2, zs ++ [e], by simp [hE], rfl, q, by simp, hsub.append (List.Sublist.refl _), fun hx => by
            rcases List.mem_append.mp hx with hx | hx
            · exact List.mem_append_left _ (hzz hx)
            · exact List.mem_append_right _ hx⟩
        simp [eqD_tupI, optR, asB]
        by_cases hez : e = z
        · subst hez
          simp
          exact ⟨by omega, keep S' (p.le (by simp))⟩
        · simp [hez]
          refine okR_mono (e_pick (m := m + E2.length) 2 (p.ok.le (by simp; omega)) (by omega) (by omega)) ?_
          rintro _ S3 ⟨p3, u, rfl, u0, u1⟩
          simp [optR, asB]
          by_cases hu : u = 0
          · simp [hu]
            exact ⟨by omega, keep S3 (p.trans p3)⟩
          · simp [hu]
            refine ⟨E1 ++ [e], E2, zs, by simp [hE], rfl, p.trans p3, rfl, ?_, fun hx => ?_⟩
            · have := hsub.append (List.nil_sublist [e])
              simpa using this
            · rcases List.mem_append.mp hx with hx | hx
              · exact hzz hx
              · simp at hx; exact absurd hx.symm hez
    · rintro acc S' ⟨E1, E2, zs, hE, hl, p, rfl, hsub, hzz⟩
      simp at hl
      subst hl
      simp at hE
      simp [tupD, optR]
      refine ⟨by simpa using p, zs, rfl, ?_, by rw [hE]; exact hsub⟩
      intro z0
      subst z0
      exact absurd (hzz (hE ▸ hz)) (by simp)
    · exact ⟨[], evD d, [], rfl, rfl, (p1.trans p2).le (by omega), rfl, List.Sublist.refl _, by simp⟩
end Gk09

set_option maxHeartbeats 4000000
namespace VS
open PySem PySem.Spec PyProof.Rows L2
/-- loops that always go on -/
theorem forL_go {g : D → Env → Option Env} {b : RS} {I : Env → Prop} {S : Sto} : ∀ {l : List D} {ρ : Env}, (∀ d ∈ l, ∀ ρ, I ρ → ∃ ρ1, g d ρ = some ρ1 ∧ ∃ ρ2, b ρ1 S = .nx ρ2 S ∧ I ρ2) → I ρ → ∃ ρ2, forL g b l ρ S = .nx ρ2 S ∧ I ρ2
  | [], ρ, _, i => ⟨ρ, rfl, i⟩
  | d :: l, ρ, h, i => by
    obtain ⟨ρ1, h1, ρ2, h2, i2⟩ := h d (List.mem_cons_self ..) ρ i
    unfold forL
    simp only [h1, h2]
    exact forL_go (fun x hx => h x (List.mem_cons_of_mem _ hx)) i2
theorem forL_ne {g : D → Env → Option Env} {b : RS} {I J : Env → Prop} {S : Sto} {l : List D} {ρ : Env} (hl : l ≠ []) (h : ∀ d ∈ l, ∀ ρ, I ρ → ∃ ρ1, g d ρ = some ρ1 ∧ ∃ ρ2, b ρ1 S = .nx ρ2 S ∧ J ρ2) (ji : ∀ ρ, J ρ → I ρ) (i : I ρ) : ∃ ρ2, forL g b l ρ S = .nx ρ2 S ∧ J ρ2 := by
  cases l with
  | nil => exact absurd rfl hl
  | cons d l =>
    obtain ⟨ρ1, h1, ρ2, h2, i2⟩ := h d (List.mem_cons_self ..) ρ i
    unfold forL
    simp only [h1, h2]
    exact forL_go (fun x hx ρ j => h x (List.mem_cons_of_mem _ hx) ρ (ji ρ j)) i2
theorem gd_up {m n : Nat} {d : D} (h : gd m n d = true) : gd (m + 1) (n + 1) d = true := gd_mono (by omega) (by omega) h
theorem mem_cut {l : List D} {lo hi : Option Int} {x : D} (h : x ∈ VS.cut l lo hi) : x ∈ l := List.mem_of_mem_drop (List.mem_of_mem_take h)
theorem gdT {m n : Nat} {l : List D} (hl : l.length ≤ m) (h : ∀ d ∈ l, gd m n d = true) : gd m (n + 1) (.tup l) = true ∧ gd m (n + 1) (.lst l) = true := by
  simp [gd]
  exact ⟨hl, h⟩
theorem len_insU (x : List Int) : ∀ l : List (List Int), (insU x l).length ≤ l.length + 1
  | [] => by simp [insU]
  | y :: l => by
    have := len_insU x l
    unfold insU
    repeat' split
    all_goals simp
    all_goals omega
theorem len_sortU : ∀ l : List (List Int), (sortU l).length ≤ l.length
  | [] => by simp [sortU]
  | x :: l => by
    have h1 := len_insU x (sortU l)
    have h2 := len_sortU l
    show (insU x (sortU l)).length ≤ l.length + 1
    omega
mutual
theorem eqB_refl : ∀ d : D, okD d = true → eqB d d = true
  | .non, _ => rfl
  | .bl b, _ => by cases b <;> rfl
  | .int i, _ => by simp [eqB]
  | .str x, _ => by simp [eqB]
  | .tup l, h => by simpa [eqB] using eqBs_refl l (by simpa [okD] using h)
  | .lst l, h => by simpa [eqB] using eqBs_refl l (by simpa [okD] using h)
  | .obj _, h => by simp [okD] at h
  | .fn _, h => by simp [okD] at h
  | .adr _, h => by simp [okD] at h
theorem eqBs_refl : ∀ l : List D, okDs l = true → eqBs l l = true
  | [], _ => rfl
  | d :: l, h => by
    have h' : okD d = true ∧ okDs l = true := by simpa [okDs] using h
    simp [eqBs, eqB_refl d h'.1, eqBs_refl l h'.2]
end
theorem nx_fl {f : Fl} {ρ : Env} {S : Sto} {Qn : Env → Sto → Prop} {Qr : D → Sto → Prop} (h : f = .nx ρ S) (q : Qn ρ S) : okFl f Qn Qr := by
  rw [h]
  exact .nx q
/-- the last item of the loop stands in its slot -/
theorem okFl_forN {g : D → Env → Option Env} {b : RS} (I J : Env → Sto → Prop) {Qn : Env → Sto → Prop} {Qr : D → Sto → Prop} {l : List D} {ρ : Env} {S : Sto} (hl : l ≠ [])
    (h : ∀ d ∈ l, ∀ ρ S, I ρ S → ∃ ρ1, g d ρ = some ρ1 ∧ okFl (b ρ1 S) J Qr) (ji : ∀ ρ S, J ρ S → I ρ S) (e : ∀ ρ S, J ρ S → Qn ρ S) (i : I ρ S) : okFl (forL g b l ρ S) Qn Qr := by
  refine okFl_for (fun l' ρ S => (∀ d ∈ l', d ∈ l) ∧ (l' ≠ [] → I ρ S) ∧ (l' = [] → J ρ S)) (fun d l' ρ S ⟨m, i, _⟩ => ?_) (fun ρ S i => e ρ S (i.2.2 rfl)) ⟨fun _ h => h, fun _ => i, fun z => absurd z hl⟩
  obtain ⟨ρ1, h1, h2⟩ := h d (m d (List.mem_cons_self ..)) ρ S (i (by simp))
  exact ⟨ρ1, h1, okFl_mono h2 (fun ρ S z => ⟨fun x hx => m x (List.mem_cons_of_mem _ hx), fun _ => ji _ _ z, fun _ => z⟩) fun _ _ z => z⟩
abbrev Guest := List (List (Bool × Nat))
def habD (h : Bool × Nat) : D := .tup [.bl h.1, .int (h.2 : Int)]
def moodD (m : List (Bool × Nat)) : D := .tup (m.map habD)
def guestD (g : Guest) : D := .tup (g.map moodD)
def rowD (k : Nat) (gs : List Guest) : D := .tup [.int (k : Int), .tup (gs.map guestD)]
structure GuestOk (k : Nat) (g : Guest) : Prop where
  m1 : 1 ≤ g.length
  m3 : g.length ≤ 3
  hk : ∀ m ∈ g, m.length = k
  hn : ∀ m ∈ g, ∀ h ∈ m, h.2 < g.length
structure RowOk (k : Nat) (gs : List Guest) : Prop where
  k1 : 1 ≤ k
  k3 : k ≤ 3
  g1 : 1 ≤ gs.length
  g2 : gs.length ≤ 2
  ok : ∀ g ∈ gs, GuestOk k g
theorem RowOk.cases {k : Nat} {gs : List Guest} (h : RowOk k gs) : (∃ g, gs = [g] ∧ GuestOk k g) ∨ ∃ g g', gs = [g, g'] ∧ GuestOk k g ∧ GuestOk k g' := by
  have h1 := h.g1
  have h2 := h.g2
  have ho := h.ok
  match gs, h1, h2, ho with
  | [g], _, _, ho => exact .inl ⟨g, rfl, ho g (by simp)⟩
  | [g, g'], _, _, ho => exact .inr ⟨g, g', rfl, ho g (by simp), ho g' (by simp)⟩
  | [], h1, _, _ => simp at h1
  | _ :: _ :: _ :: _, _, h2, _ => simp at h2
def stZ (s : List Nat) : List Int := s.map fun (n : Nat) => (n : Int)
def stD (s : List Nat) : D := .tup (s.map fun (n : Nat) => .int (n : Int))
theorem stD_tupI (s : List Nat) : stD s = tupI (stZ s) := by simp [stD, tupI, stZ]
theorem stD1 (a : Nat) : stD [a] = .tup [.int (a : Int)] := rfl
theorem stD2 (a b : Nat) : stD [a, b] = .tup [.int (a : Int), .int (b : Int)] := rfl
def stOk : List Guest → List Nat → Prop
  | [], [] => True
  | g :: gs, a :: s => a < g.length ∧ stOk gs s
  | _, _ => False
instance stOk_dec : ∀ (gs : List Guest) (s : List Nat), Decidable (stOk gs s)
  | [], [] => isTrue trivial
  | g :: gs, a :: s => @instDecidableAnd _ _ _ (stOk_dec gs s)
  | [], _ :: _ => isFalse id
  | _ :: _, [] => isFalse id
theorem stOk1 {g : Guest} {s : List Nat} (h : stOk [g] s) : ∃ a, s = [a] ∧ a < g.length := by
  match s, h with
  | [a], h => exact ⟨a, rfl, h.1⟩
  | [], h => exact h.elim
  | _ :: _ :: _, h => exact h.2.elim
theorem stOk2 {g g' : Guest} {s : List Nat} (h : stOk [g, g'] s) : ∃ a b, s = [a, b] ∧ a < g.length ∧ b < g'.length := by
  match s, h with
  | [a, b], h => exact ⟨a, b, rfl, h.1, h.2.1⟩
  | [], h => exact h.elim
  | [_], h => exact h.2.elim
  | _ :: _ :: _ :: _, h => exact h.2.2.elim
theorem st_len {gs : List Guest} : ∀ {s : List Nat}, stOk gs s → s.length = gs.length := by
  induction gs with
  | nil => intro s h; cases s with
    | nil => rfl
    | cons a s => exact h.elim
  | cons g gs ih => intro s h; cases s with
    | nil => exact h.elim
    | cons a s => simp [ih h.2]
def evN : List Guest → List (List Nat)
  | [] => [[]]
  | g :: gs => (List.range g.length).flatMap fun a => (evN gs).map (a :: ·)
theorem mem_evN : ∀ {gs : List Guest} {s : List Nat}, s ∈ evN gs ↔ stOk gs s
  | [], [] => by simp [evN, stOk]
  | [], _ :: _ => by simp [evN, stOk]
  | g :: gs, [] => by simp [evN, stOk]
  | g :: gs, a :: s => by
    simp only [evN, stOk, List.mem_flatMap, List.mem_range, List.mem_map]
    constructor
    · rintro ⟨b, hb, t, ht, e⟩
      cases e
      exact ⟨hb, mem_evN.mp ht⟩
    · rintro ⟨h1, h2⟩
      exact ⟨a, h1, s, mem_evN.mpr h2, rfl⟩
def moodOf (g : Guest) (a : Nat) : List (Bool × Nat) := g.getD a []
/-- the habit of a mood for a kind -/
def habOf (g : Guest) (a k : Nat) : Bool × Nat := (g.getD a []).getD k (false, 0)
/-- (who takes a dish, the stand then), the guests numbered from n on -/
def dishF : Nat → List Guest → List Nat → Nat → Option Nat × List Nat
  | n, g :: gs, a :: s, k => if (habOf g a k).1 = true then (some n, (habOf g a k).2 :: s) else ((dishF (n + 1) gs s k).1, (habOf g a k).2 :: (dishF (n + 1) gs s k).2)
  | _, _, s, _ => (none, s)
def tkD : Option Nat → D
  | none => .non
  | some n => .int (n : Int)
theorem habOf_lt {k a j : Nat} {g : Guest} (h : GuestOk k g) (ha : a < g.length) (hj : j < k) : (habOf g a j).2 < g.length := by
  have e1 : g.getD a [] = g[a] := by simp [ha]
  have hm := h.hk _ (List.getElem_mem ha)
  have hj' : j < g[a].length := by omega
  have e2 : habOf g a j = g[a][j] := by unfold habOf; rw [e1]; simp [hj']
  rw [e2]
  exact h.hn _ (List.getElem_mem ha) _ (List.getElem_mem hj')
theorem dishF_ok {k j : Nat} : ∀ {gs : List Guest} {s : List Nat} {n : Nat}, (∀ g ∈ gs, GuestOk k g) → j < k → stOk gs s → stOk gs (dishF n gs s j).2 ∧ ∀ m, (dishF n gs s j).1 = some m → n ≤ m ∧ m < n + gs.length
  | [], [], n, _, _, _ => ⟨trivial, fun m h => by simp [dishF] at h⟩
  | [], _ :: _, _, _, _, h => h.elim
  | _ :: _, [], _, _, _, h => h.elim
  | g :: gs, a :: s, n, ho, hj, h => by
    have h1 := habOf_lt (ho g (by simp)) h.1 hj
    have ih := dishF_ok (gs := gs) (s := s) (n := n + 1) (fun x hx => ho x (by simp [hx])) hj h.2
    unfold dishF
    split
    · exact ⟨⟨h1, h.2⟩, fun m e => by cases e; simp⟩
    · refine ⟨⟨h1, ih.1⟩, fun m e => ?_⟩
      have := ih.2 m e
      simp
      omega
theorem atI_nat {l : List D} {i : Nat} (h : i < l.length) : L2.atI l (i : Int) = some l[i] := by
  simp [L2.atI, L2.ixN, h]
theorem ix_tup {l : List D} {i : Nat} (h : i < l.length) : ixD (.tup l) (.int (i : Int)) = some l[i] := by
  show L2.atI l (i : Int) = _
  exact atI_nat h
theorem ix_mood {k a : Nat} {g : Guest} (ha : a < g.length) : ixD (guestD g) (.int (a : Int)) = some (moodD (moodOf g a)) := by
  unfold guestD moodOf
  rw [ix_tup (by simpa using ha)]
  simp [ha]
theorem ix_hab {k a j : Nat} {g : Guest} (h : GuestOk k g) (ha : a < g.length) (hj : j < k) : ixD (moodD (moodOf g a)) (.int (j : Int)) = some (habD (habOf g a j)) := by
  have e1 : g.getD a [] = g[a] := by simp [ha]
  have hm := h.hk _ (List.getElem_mem ha)
  have hj' : j < g[a].length := by omega
  unfold moodD moodOf
  rw [e1, ix_tup (by simpa using hj')]
  unfold habOf
  rw [e1]
  simp [hj']
theorem ix1 (a : D) : ixD (.tup [a]) (.int 0) = some a := rfl
theorem ix20 (a b : D) : ixD (.tup [a, b]) (.int 0) = some a := rfl
theorem ix21 (a b : D) : ixD (.tup [a, b]) (.int 1) = some b := rfl
theorem cut1a (a : D) : VS.cut [a] none (some 0) = [] := by simp [VS.cut, HT.sIx]
theorem cut1b (a : D) : VS.cut [a] (some 1) none = [] := by simp [VS.cut, HT.sIx]
theorem cut2a (a b : D) : VS.cut [a, b] none (some 0) = [] := by simp [VS.cut, HT.sIx]
theorem cut2b (a b : D) : VS.cut [a, b] none (some 1) = [a] := by simp [VS.cut, HT.sIx]
theorem cut2c (a b : D) : VS.cut [a, b] (some 1) none = [b] := by simp [VS.cut, HT.sIx]
theorem cut2d (a b : D) : VS.cut [a, b] (some 2) none = [] := by simp [VS.cut, HT.sIx]
/-- what is seen -/
inductive Look where
  | who | left | non
  deriving DecidableEq
def lookS : Look → Str
  | .who => "who"
  | .left => "left"
  | .non => "none"
def wordF (l : Look) (t : Option Nat) : Str := match l, t with
  | .non, _ => "sent"
  | _, none => "left"
  | .who, some n => (toString (n : Int) : String)
  | .left, some _ => "taken"
end VS

set_option maxHeartbeats 4000000
namespace Gk09
open PySem PySem.Spec PyProof.Rows L2 VS
theorem eqD_str (a b : Str) (ha : PyData.strOk a = true) (hb : PyData.strOk b = true) : eqD (.str a) (.str b) = some (.bl (a == b)) := by
  simp [eqD, shp, okD, dep, ha, hb, eqB]
theorem look_ok (l : Look) : PyData.strOk (lookS l) = true := by cases l <;> decide +kernel
theorem hab_typed {n : Nat} {d : D} (h : habitB (n : Int) d = true) : ∃ x : Bool × Nat, d = habD x ∧ x.2 < n := by
  unfold habitB at h
  split at h
  · rename_i b x
    unfold withinB at h
    split at h
    · rename_i i
      simp at h
      refine ⟨(b, i.toNat), ?_, by simp; omega⟩
      have : (i.toNat : Int) = i := by omega
      simp [habD, this]
    · cases h
  · cases h
theorem typed_all {α : Type} {f : α → D} {p : D → Bool} {q : α → Prop} (h : ∀ d, p d = true → ∃ x, d = f x ∧ q x) : ∀ l : List D, l.all p = true → ∃ xs : List α, l = xs.map f ∧ ∀ x ∈ xs, q x
  | [], _ => ⟨[], rfl, by simp⟩
  | d :: l, hl => by
    simp at hl
    obtain ⟨x, rfl, hx⟩ := h d hl.1
    obtain ⟨xs, rfl, hxs⟩ := typed_all h l (by simpa using hl.2)
    exact ⟨x :: xs, rfl, by simpa using ⟨hx, hxs⟩⟩
theorem mood_typed {k n : Nat} {d : D} (h : moodB (k : Int) (n : Int) d = true) : ∃ m : List (Bool × Nat), d = moodD m ∧ (m.length = k ∧ ∀ x ∈ m, x.2 < n) := by
  unfold moodB at h
  simp only [Bool.and_eq_true] at h
  cases d with
  | tup l =>
    obtain ⟨xs, rfl, hx⟩ := typed_all (f := habD) (q := fun x => x.2 < n) (fun d hd => hab_typed hd) l h.2
    have := h.1
    simp [itemsB] at this
    exact ⟨xs, rfl, by omega, hx⟩
  | _ => simp [itemsB] at h
theorem guest_typed {k : Nat} {d : D} (h : guestB (k : Int) d = true) : ∃ g : Guest, d = guestD g ∧ GuestOk k g := by
  unfold guestB at h
  simp only [Bool.and_eq_true] at h
  cases d with
  | tup l =>
    obtain ⟨xs, rfl, hx⟩ := typed_all (f := moodD) (q := fun m => m.length = k ∧ ∀ x ∈ m, x.2 < l.length) (fun d hd => mood_typed (by simpa [tlen] using hd)) l h.2
    have := h.1
    simp [itemsB] at this
    exact ⟨xs, rfl, by omega, by omega, fun m hm => (hx m hm).1, fun m hm x hx' => by simpa using (hx m hm).2 x hx'⟩
  | _ => simp [itemsB] at h
theorem row_typed {d : D} (h : rowB d = true) : ∃ k gs, d = rowD k gs ∧ RowOk k gs := by
  obtain ⟨k, gs, rfl, h1, h3, _⟩ := row_cases h
  obtain ⟨k, rfl⟩ : ∃ n : Nat, k = n := ⟨k.toNat, by omega⟩
  have h' := h
  simp [rowB, withinB, itemsB, tallB] at h
  obtain ⟨xs, rfl, hx⟩ := typed_all (f := guestD) (q := GuestOk k) (fun d hd => guest_typed hd) gs (by simpa using h.2.2)
  have := h.2.1
  simp at this
  exact ⟨k, xs, rfl, by omega, by omega, by omega, by omega, hx⟩
theorem evK1 (a : Nat) : evK [a] = (List.range a).map fun (i : Nat) => [(i : Int)] := by
  simp [evK]
theorem ev_typed {k : Nat} {gs : List Guest} (h : RowOk k gs) : evD (rowD k gs) = (evN gs).map stZ := by
  rcases h.cases with ⟨g, rfl, hg⟩ | ⟨g, g', rfl, hg, hg'⟩
  · simp [evD, rowD, gLen, guestD, evK, evN, stZ, List.map_flatMap, List.flatMap_map, List.map_map]
    simp only [List.map_eq_flatMap]
  · simp [evD, rowD, gLen, guestD, evK, evN, stZ, List.map_flatMap, List.flatMap_map]
    simp only [List.map_eq_flatMap]
def lookB : D → Bool
  | .str z => ("who" : Str) == z || (("left" : Str) == z || ("none" : Str) == z)
  | _ => false
theorem e_is_look {m n : Nat} (x : D) (S : Sto) (h : gd m n x = true) : C_is_look_value [x] S = .ok (.bl (lookB x)) S := by
  rw [u_is_look_value]
  cases x with
  | str z =>
    have hz : PyData.strOk z = true := by
      cases n <;> simp [gd] at h <;> exact h.1
    have s1 : shp (.str z) = true := by simp [shp, okD, dep, hz]
    have s2 : shp (D.tup [D.str (Str.ofString "who"), D.str (Str.ofString "left"), D.str (Str.ofString "none")]) = true := by decide +kernel
    simp [isT, inD, s1, s2, eqB, optR, lookB]
  | _ => first | (simp [isT, optR, lookB]; done) | (exfalso; cases n <;> simp [gd] at h; done)
theorem e_need_look {m n : Nat} (x : D) (S : Sto) (h : gd m n x = true) : C_need_look [x] S = if lookB x = true then .ok .non S else .exc ⟨"InvalidLook", none⟩ S := by
  rw [u_need_look]
  simp [e_is_look x S h, asB, optR]
  cases lookB x <;> simp
theorem same_refl {m : Nat} (hm : m ≤ lim) : ∀ (n k : Nat) (d : D) (S : Sto), gd m n d = true → n < k → C__law_same k [d, d] S = .ok (.bl true) S
  | n, 0, d, S, _, h => absurd h (by omega)
  | n, k + 1, .non, S, _, _ => by
    rw [u__law_same]
    simp [e_sort (m := 0) (n := 0) .non S (by simp [gd]), sortN, optR, asB, gtI, ltI, iBin, eqD, shp, okD, dep, eqB]
  | n, k + 1, .bl b, S, _, _ => same_bl k b S
  | n, k + 1, .int i, S, _, _ => same_int k i S
  | n, k + 1, .str z, S, h, _ => by
    have hz : PyData.strOk z = true := by cases n <;> simp [gd] at h <;> exact h.1
    rw [u__law_same]
    simp [e_sort _ S h, sortN, optR, asB, gtI, ltI, iBin, eqD, shp, okD, dep, eqB, hz]
  | n, k + 1, .tup l, S, h, hk => by
    obtain ⟨i, rfl, hl, hh⟩ := gd_tup h
    exact (same_seq k l S hm fun d hd => same_refl hm i k d S (hh d hd) (by omega)).1 h
  | n, k + 1, .lst l, S, h, hk => by
    obtain ⟨i, rfl, hl, hh⟩ := gd_lst h
    exact (same_seq k l S hm fun d hd => same_refl hm i k d S (hh d hd) (by omega)).2 h
  | n, k + 1, .obj _, S, h, _ => by cases n <;> simp [gd] at h
  | n, k + 1, .fn _, S, h, _ => by cases n <;> simp [gd] at h
  | n, k + 1, .adr _, S, h, _ => by cases n <;> simp [gd] at h
end Gk09

set_option maxHeartbeats 4000000
namespace Gk09
open PySem PySem.Spec PyProof.Rows L2 VS
theorem e_need_lot {m n : Nat} {d : D} (x : D) (S : Sto) (h : rowB d = true) (hx : gd m n x = true) (hm : m ≤ lim) : C_need_lot [d, x] S = if lotB (evD d) x = true then .ok .non S else .exc ⟨"InvalidLot", none⟩ S := by
  rw [u_need_lot]
  simp [e_is_lot_value x S h hx hm, asB, optR]
  cases lotB (evD d) x <;> simp
theorem e_need_cook {m n : Nat} (d l x : D) (S : Sto) (hd : gd m n d = true) (hl : gd m n l = true) (hx : gd m n x = true) (hm : m ≤ lim) :
    C_need_cook [d, l, x] S = if rowB d = true then (if lookB l = true then (if lotB (evD d) x = true then .ok .non S else .exc ⟨"InvalidLot", none⟩ S) else .exc ⟨"InvalidLook", none⟩ S) else .exc ⟨"InvalidRow", none⟩ S := by
  rw [u_need_cook]
  have e1 := e_need_row d S hd hm
  have e2 := e_need_look l S hl
  cases hr : rowB d with
  | false =>
    rw [hr] at e1
    simp at e1
    simp [e1]
  | true =>
    rw [hr] at e1
    simp at e1
    have e3 := e_need_lot x S hr hx hm
    cases h2 : lookB l with
    | false =>
      rw [h2] at e2
      simp at e2
      simp [e1, e2]
    | true =>
      rw [h2] at e2
      simp at e2
      cases h3 : lotB (evD d) x with
      | false =>
        rw [h3] at e3
        simp at e3
        simp [e1, e2, e3]
      | true =>
        rw [h3] at e3
        simp at e3
        simp [e1, e2, e3]
def goalB (n : Int) : D → Bool
  | .str z => ("now" : Str) == z || ("first" : Str) == z
  | d => withinB 0 (n - 1) d
def numS (n : Nat) : Str := (toString (n : Int) : String)
def sightsF : Look → Nat → List Str
  | .non, _ => ["sent"]
  | .who, n => (List.range n).map numS ++ [("left" : Str)]
  | .left, _ => ["left", "taken"]
theorem num_lt {n : Nat} (h : n < 2) : (n : Int).natAbs.log2 < 1920 ∧ PyData.strOk (numS n) = true ∧ (numS n).length ≤ 1000 := by
  have : n = 0 ∨ n = 1 := by omega
  rcases this with rfl | rfl <;> decide +kernel
theorem str_nums (n : Nat) (hn : n ≤ 2) {ρ : VS.Env} (hρ : 2 < ρ.length) (S : Sto) : lcL (gN 2) rYes (rCl strD (rCons (rVar 2) rNil)) ρ ((List.range n).map fun (i : Nat) => .int (i : Int)) [] S = .ok ((List.range n).map fun i => .str (numS i)) S := by
  have := lcL_map (g := gN 2) (e := rCl strD (rCons (rVar 2) rNil)) (ρ := ρ) (S := S) (fun d => match d with | .int i => .str (toString i : String) | _ => .non) ((List.range n).map fun (i : Nat) => .int (i : Int)) (fun d hd => by
    obtain ⟨i, hi, rfl⟩ := List.mem_map.mp hd
    have hi := List.mem_range.mp hi
    have hl := (num_lt (n := i) (by omega)).1
    refine ⟨ρ.set 2 (.val (.int i)), by simp [gN, hρ], ?_⟩
    have e2 : (ρ.set 2 (.val (.int (i : Int))))[2]? = some (.val (.int (i : Int))) := by rw [List.getElem?_set_self hρ]
    simp only [rCl, rCons, rVar, e2, rNil, Res.bind_ok, strD, hl, if_true, optR_some]) (by simp; exact Nat.le_trans hn (by decide))
  rw [this, List.map_map]
  rfl
def pairB (k : Int) (ws : List Str) : D → Bool
  | .tup [a, b] => withinB 0 (k - 1) a && ws.any fun z => eqB (.str z) b
  | _ => false
def seenB (k : Int) (ws : List Str) (d : D) : Bool := itemsB 0 30 d && (tallB (itemsB 2 2) d && tallB (pairB k ws) d)
theorem sights_shp {l : Look} {n : Nat} (hn : n ≤ 2) : shp (.lst ((sightsF l n).map .str)) = true := by
  have : n = 0 ∨ n = 1 ∨ n = 2 := by omega
  rcases this with rfl | rfl | rfl <;> cases l <;> decide +kernel
theorem any_map_str (ws : List Str) (b : D) : ((ws.map D.str).any fun z => eqB z b) = ws.any fun z => eqB (.str z) b := by
  rw [List.any_map]
  congr 1
def seenD (p : Nat × Str) : D := .tup [.int (p.1 : Int), .str p.2]
def SeenOk (k : Nat) (ws : List Str) (seen : List (Nat × Str)) : Prop := seen.length ≤ 30 ∧ ∀ p ∈ seen, p.1 < k ∧ p.2 ∈ ws
def goF (gs : List Guest) (l : Look) : List Nat → List (Nat × Str) → List (Option Nat) × List Str × List Nat
  | s, [] => ([], [], s)
  | s, p :: r => ((dishF 0 gs s p.1).1 :: (goF gs l (dishF 0 gs s p.1).2 r).1, wordF l (dishF 0 gs s p.1).1 :: (goF gs l (dishF 0 gs s p.1).2 r).2.1, (goF gs l (dishF 0 gs s p.1).2 r).2.2)
def goodF (gs : List Guest) (l : Look) (s : List Nat) (seen : List (Nat × Str)) : Bool := (goF gs l s seen).2.1 == seen.map (·.2)
def runsF (gs : List Guest) (l : Look) (lot : List (List Nat)) (seen : List (Nat × Str)) : List (List Nat × List (Option Nat) × List Nat) := (lot.filter fun s => goodF gs l s seen).map fun s => (s, (goF gs l s seen).1, (goF gs l s seen).2.2)
def runD (r : List Nat × List (Option Nat) × List Nat) : D := .tup [stD r.1, .tup (r.2.1.map tkD), stD r.2.2]
def runLD (r : List Nat × List (Option Nat) × List Nat) : D := .tup [stD r.1, .lst (r.2.1.map tkD), stD r.2.2]
theorem goF_ok {k : Nat} {gs : List Guest} {l : Look} (h : RowOk k gs) : ∀ {seen : List (Nat × Str)} {s : List Nat}, (∀ p ∈ seen, p.1 < k) → stOk gs s → stOk gs (goF gs l s seen).2.2
  | [], s, _, hs => hs
  | p :: r, s, hk, hs => goF_ok h (seen := r) (fun q hq => hk q (by simp [hq])) (dishF_ok (n := 0) h.ok (hk p (by simp)) hs).1
theorem goF_len {gs : List Guest} {l : Look} : ∀ {seen : List (Nat × Str)} {s : List Nat}, (goF gs l s seen).1.length = seen.length ∧ (goF gs l s seen).2.1.length = seen.length
  | [], s => ⟨rfl, rfl⟩
  | p :: r, s => by simp [goF, goF_len (seen := r)]
theorem word_ok (l : Look) (t : Option Nat) (ht : ∀ n, t = some n → n < 2) : PyData.strOk (wordF l t) = true ∧ (wordF l t).length ≤ 1000 := by
  cases t with
  | none => cases l <;> decide +kernel
  | some n =>
    have hn := ht n rfl
    have : n = 0 ∨ n = 1 := by omega
    rcases this with rfl | rfl <;> cases l <;> decide +kernel
theorem tk_lt {k j : Nat} {gs : List Guest} {s : List Nat} (h : RowOk k gs) (hs : stOk gs s) (hj : j < k) : ∀ n, (dishF 0 gs s j).1 = some n → n < 2 := fun n hn => by
  have := (dishF_ok (n := 0) h.ok hj hs).2 n hn
  have := h.g2
  omega
theorem sights_ok {l : Look} {n : Nat} (hn : n ≤ 2) : ∀ w ∈ sightsF l n, PyData.strOk w = true ∧ w.length ≤ 1000 := by
  have : n = 0 ∨ n = 1 ∨ n = 2 := by omega
  rcases this with rfl | rfl | rfl <;> cases l <;> decide +kernel
structure RunO (k : Nat) (gs : List Guest) (l : Look) (lot : List (List Nat)) (seen : List (Nat × Str)) (S : Sto) (l' : List D) (ρ : VS.Env) (S' : Sto) : Prop where
  ex : S' = S ∧ ∃ (done rest : List (List Nat)) (a5 a6 a7 a8 a9 a10 a11 : Sl), lot = done ++ rest ∧ l' = rest.map stD ∧ ρ = [.val (rowD k gs), .val (.str (lookS l)), .val (.tup (lot.map stD)), .val (.tup (seen.map seenD)), .ol ((runsF gs l done seen).map runD), a5, a6, a7, a8, a9, a10, a11]
structure RunI (k : Nat) (gs : List Guest) (l : Look) (lot : List (List Nat)) (seen : List (Nat × Str)) (s : List Nat) (found : List D) (S : Sto) (l' : List D) (ρ : VS.Env) (S' : Sto) : Prop where
  ex : S' = S ∧ ∃ (r : List (Nat × Str)) (here : List Nat) (ts : List (Option Nat)) (g : Bool) (a9 a10 a11 : Sl), l' = r.map seenD ∧ (∀ p ∈ r, p ∈ seen) ∧ stOk gs here ∧ ts.length + r.length = seen.length ∧ (goF gs l s seen).1 = ts ++ (goF gs l here r).1 ∧ (goF gs l s seen).2.2 = (goF gs l here r).2.2 ∧ goodF gs l s seen = (g && goodF gs l here r) ∧
    ρ = [.val (rowD k gs), .val (.str (lookS l)), .val (.tup (lot.map stD)), .val (.tup (seen.map seenD)), .ol found, .val (stD s), .val (stD here), .val (.tup (ts.map tkD)), .val (.bl g), a9, a10, a11]
theorem runsF_snoc (gs : List Guest) (l : Look) (done : List (List Nat)) (s : List Nat) (seen : List (Nat × Str)) : runsF gs l (done ++ [s]) seen = runsF gs l done seen ++ (if goodF gs l s seen = true then [(s, (goF gs l s seen).1, (goF gs l s seen).2.2)] else []) := by
  unfold runsF
  rw [List.filter_append, List.map_append]
  cases h : goodF gs l s seen <;> simp [h]
theorem runsF_len (gs : List Guest) (l : Look) (lot : List (List Nat)) (seen : List (Nat × Str)) : (runsF gs l lot seen).length ≤ lot.length := by
  unfold runsF
  rw [List.length_map]
  exact List.length_filter_le ..
structure LotT (gs : List Guest) (ls : List (List Nat)) : Prop where
  ne : ls ≠ []
  sub : ls.Sublist (evN gs)
theorem LotT.st {gs : List Guest} {ls : List (List Nat)} (h : LotT gs ls) : ∀ s ∈ ls, stOk gs s := fun s hs => mem_evN.mp (h.sub.subset hs)
theorem row_back {k : Nat} {gs : List Guest} (h : RowOk k gs) : rowB (rowD k gs) = true := by
  have h1 := h.k1
  have h2 := h.k3
  have h3 := h.g1
  have h4 := h.g2
  simp [rowB, rowD, withinB, itemsB, tallB]
  refine ⟨⟨by omega, by omega⟩, ⟨by omega, by omega⟩, fun g hg => ?_⟩
  have G := h.ok g hg
  have := G.m1
  have := G.m3
  simp [guestB, guestD, itemsB, tallB, tlen]
  refine ⟨⟨by omega, by omega⟩, fun m hm => ?_⟩
  have key : ∀ x ∈ m, habitB (g.length : Int) (habD x) = true := fun x hx => by
    have := G.hn m hm x hx
    simp [habitB, habD, withinB]
    omega
  simp [moodB, moodD, itemsB, tallB, G.hk m hm]
  exact ⟨fun b hb => key _ hb, fun b hb => key _ hb⟩
theorem evN_len {k : Nat} {gs : List Guest} (h : RowOk k gs) : (evN gs).length ≤ 9 := by
  have := ev_len (row_back h)
  rw [ev_typed h] at this
  simpa using this.1
theorem LotT.len {k : Nat} {gs : List Guest} {ls : List (List Nat)} (h : RowOk k gs) (hl : LotT gs ls) : 1 ≤ ls.length ∧ ls.length ≤ 9 := by
  refine ⟨?_, Nat.le_trans hl.sub.length_le (evN_len h)⟩
  have := hl.ne
  cases ls with
  | nil => exact absurd rfl this
  | cons a l => simp
theorem lot_typed {k : Nat} {gs : List Guest} {x : D} (h : RowOk k gs) (hx : LotOk (evD (rowD k gs)) x) : ∃ ls, x = .tup (ls.map stD) ∧ LotT gs ls := by
  obtain ⟨zs, rfl, hne, hs⟩ := hx
  rw [ev_typed h] at hs
  obtain ⟨ls, hls, rfl⟩ := List.sublist_map_iff.mp hs
  refine ⟨ls, ?_, ?_, hls⟩
  · rw [List.map_map]
    congr 1
    exact List.map_congr_left fun s _ => (stD_tupI s).symm
  · intro z
    exact hne (by rw [z]; rfl)
theorem stD_list (ls : List (List Nat)) : ls.map stD = (ls.map stZ).map tupI := by
  rw [List.map_map]
  exact List.map_congr_left fun s _ => stD_tupI s
theorem lotB_lot {k : Nat} {gs : List Guest} {ls : List (List Nat)} (h : RowOk k gs) (hr : rowB (rowD k gs) = true) (hl : LotT gs ls) : lotB (evD (rowD k gs)) (.tup (ls.map stD)) = true := by
  have E := eok hr
  have hz : ∀ z ∈ ls.map stZ, z ∈ evD (rowD k gs) := fun z hz => by
    rw [ev_typed h]
    exact (hl.sub.map stZ).subset hz
  rw [stD_list, lotB_map (List.all_eq_true.mpr fun z hz' => by simpa using hz z hz')]
  have hp : (ls.map stZ).Pairwise codeLt := by
    have := E.sorted
    rw [ev_typed h] at this
    exact this.sublist (hl.sub.map stZ)
  simp [← (E.srt hz).mp hp]
  have := hl.ne
  cases ls with
  | nil => exact absurd rfl this
  | cons a l => simp
theorem gd_lot {gs : List Guest} {k : Nat} {ls : List (List Nat)} (h : RowOk k gs) (hl : LotT gs ls) : gd 9 9 (.tup (ls.map stD)) = true := by
  have h1 := (hl.len h).2
  simp [gd, h1]
  intro s hs
  have := st_len (hl.st s hs)
  have := h.g2
  simp [stD, gd]
  omega
theorem lookB_look (l : Look) : lookB (.str (lookS l)) = true := by cases l <;> decide +kernel
theorem gd_look (l : Look) : gd 9 9 (.str (lookS l)) = true := by cases l <;> decide +kernel
theorem e_cook_ok {k : Nat} {gs : List Guest} {ls : List (List Nat)} (h : RowOk k gs) (hr : rowB (rowD k gs) = true) (hg : gd 9 9 (rowD k gs) = true) (hl : LotT gs ls) (l : Look) (S : Sto) : C_need_cook [rowD k gs, .str (lookS l), .tup (ls.map stD)] S = .ok .non S := by
  rw [e_need_cook _ _ _ S hg (gd_look l) (gd_lot h hl) (by decide), hr, lookB_look, lotB_lot h hr hl]
  rfl
theorem gd_seen {k : Nat} {gs : List Guest} {l : Look} {seen : List (Nat × Str)} (h : RowOk k gs) (hs : SeenOk k (sightsF l gs.length) seen) : gd 30 9 (.tup (seen.map seenD)) = true := by
  simp [gd, hs.1]
  intro a b hab
  have := sights_ok h.g2 _ (hs.2 _ hab).2
  simp [seenD, gd, this]
theorem seenB_ok {k : Nat} {gs : List Guest} {l : Look} {seen : List (Nat × Str)} (h : RowOk k gs) (hs : SeenOk k (sightsF l gs.length) seen) : seenB k (sightsF l gs.length) (.tup (seen.map seenD)) = true := by
  simp [seenB, itemsB, tallB]
  refine ⟨by have := hs.1; omega, fun a b hab => by simp [seenD, itemsB], fun a b hab => ?_⟩
  have := hs.2 _ hab
  simp [seenD, itemsB, pairB, withinB, eqB]
  exact ⟨by omega, this.2⟩
theorem seen_hk {k : Nat} {gs : List Guest} {l : Look} {seen : List (Nat × Str)} (h : RowOk k gs) (hs : SeenOk k (sightsF l gs.length) seen) : ∀ p ∈ seen, p.1 < k ∧ PyData.strOk p.2 = true := fun p hp => ⟨(hs.2 p hp).1, (sights_ok h.g2 _ (hs.2 p hp).2).1⟩
theorem sortSet_lst {E zs : List (List Int)} (k : EOK E) (hz : ∀ z ∈ zs, z ∈ E) (hl : zs.length < 64) : sortSetD (.lst (zs.map tupI)) = some ((sortU zs).map tupI) := sortSet_map k hz hl
def nowF (gs : List Guest) (l : Look) (ls : List (List Nat)) (seen : List (Nat × Str)) : List (List Int) := sortU ((runsF gs l ls seen).map fun r => stZ r.2.2)
theorem now_in {k : Nat} {gs : List Guest} {l : Look} {ls : List (List Nat)} {seen : List (Nat × Str)} (h : RowOk k gs) (hl : LotT gs ls) (hk : ∀ p ∈ seen, p.1 < k ∧ PyData.strOk p.2 = true) : ∀ z ∈ (runsF gs l ls seen).map (fun r => stZ r.2.2), z ∈ evD (rowD k gs) := fun z hz => by
  obtain ⟨r, hr, rfl⟩ := List.mem_map.mp hz
  unfold runsF at hr
  obtain ⟨s, hs, rfl⟩ := List.mem_map.mp hr
  have hs := (List.mem_filter.mp hs).1
  rw [ev_typed h]
  exact List.mem_map.mpr ⟨_, mem_evN.mpr (goF_ok h (fun p hp => (hk p hp).1) (hl.st s hs)), rfl⟩
theorem lcL_all {α : Type} {g : D → VS.Env → Option VS.Env} {e : VS.Env → Sto → Res D} {ρ : VS.Env} {S : Sto} {mk f : α → D} {rs : List α} (h : ∀ r ∈ rs, ∃ ρ1, g (mk r) ρ = some ρ1 ∧ e ρ1 S = .ok (f r) S) (hl : rs.length ≤ 100) : lcL g rYes e ρ (rs.map mk) [] S = .ok (rs.map f) S := by
  refine ok_of ?_
  refine okR_lc (fun l acc S' => S' = S ∧ ∃ done rest, rs = done ++ rest ∧ l = rest.map mk ∧ acc = done.map f) ?_ ?_ ⟨rfl, [], rs, rfl, rfl, rfl⟩
  · rintro d l acc S' ⟨rfl, done, rest, e1, e2, rfl⟩
    cases rest with
    | nil => simp at e2
    | cons r rest =>
      simp at e2
      obtain ⟨rfl, rfl⟩ := e2
      obtain ⟨ρ1, h1, h2⟩ := h r (by rw [e1]; simp)
      refine ⟨ρ1, h1, ?_⟩
      have : rs.length = done.length + (rest.length + 1) := by rw [e1]; simp
      simp [h2]
      refine ⟨by omega, ?_⟩
      exact ⟨done ++ [r], rest, by rw [e1]; simp, rfl, by simp⟩
  · rintro acc S' ⟨rfl, done, rest, e1, e2, rfl⟩
    cases rest with
    | cons r rest => simp at e2
    | nil => simp at e1; subst e1; exact ⟨rfl, rfl⟩
theorem lc_runs {g : D → VS.Env → Option VS.Env} {e : VS.Env → Sto → Res D} {ρ : VS.Env} {S : Sto} (mk : List Nat × List (Option Nat) × List Nat → D) (f : List Nat × List (Option Nat) × List Nat → D) (rs : List (List Nat × List (Option Nat) × List Nat)) (h : ∀ r, ∃ ρ1, g (mk r) ρ = some ρ1 ∧ e ρ1 S = .ok (f r) S) (hl : rs.length ≤ 100) : lcL g rYes e ρ (rs.map mk) [] S = .ok (rs.map f) S := by
  refine ok_of ?_
  refine okR_lc (fun l acc S' => S' = S ∧ ∃ done rest, rs = done ++ rest ∧ l = rest.map mk ∧ acc = done.map f) ?_ ?_ ⟨rfl, [], rs, rfl, rfl, rfl⟩
  · rintro d l acc S' ⟨rfl, done, rest, e1, e2, rfl⟩
    cases rest with
    | nil => simp at e2
    | cons r rest =>
      simp at e2
      obtain ⟨rfl, rfl⟩ := e2
      obtain ⟨ρ1, h1, h2⟩ := h r
      refine ⟨ρ1, h1, ?_⟩
      have : rs.length = done.length + (rest.length + 1) := by rw [e1]; simp
      simp [h2]
      refine ⟨by omega, ?_⟩
      exact ⟨done ++ [r], rest, by rw [e1]; simp, rfl, by simp⟩
  · rintro acc S' ⟨rfl, done, rest, e1, e2, rfl⟩
    cases rest with
    | cons r rest => simp at e2
    | nil => simp at e1; subst e1; exact ⟨rfl, rfl⟩
theorem runs_len {k : Nat} {gs : List Guest} {l : Look} {ls : List (List Nat)} {seen : List (Nat × Str)} (h : RowOk k gs) (hl : LotT gs ls) : (runsF gs l ls seen).length ≤ 9 := Nat.le_trans (runsF_len ..) (hl.len h).2
end Gk09

set_option maxHeartbeats 4000000
namespace VS
open PySem PySem.Spec PyProof.Rows L2
theorem str_ext {x y : Str} (h : x.cps.toList = y.cps.toList) : x = y := by
  cases x; cases y
  simp at h
  subst h
  rfl
theorem str_app (x y : Str) : (x ++ y).cps.toList = x.cps.toList ++ y.cps.toList := by
  show (x.cps ++ y.cps).toList = _
  simp
theorem str_empty_app (x : Str) : Str.empty ++ x = x := str_ext (by rw [str_app]; rfl)
theorem str_len (x : Str) : x.length = x.cps.toList.length := by
  show x.cps.size = _
  simp
theorem str_len_app (x y : Str) : (x ++ y).length = x.length + y.length := by
  rw [str_len, str_len, str_len, str_app, List.length_append]
theorem join_nil (s : Str) : Txt.join s [] = Str.empty := by rw [TL.join_eq]; rfl
theorem join_one (s x : Str) : Txt.join s [x] = x := by rw [TL.join_eq]; rfl
theorem join_cons (s x y : Str) (l : List Str) : Txt.join s (x :: y :: l) = x ++ s ++ Txt.join s (y :: l) := by rw [TL.join_eq, TL.join_eq]; rfl
theorem len_join (s : Str) : ∀ xs : List Str, (Txt.join s xs).length ≤ (xs.map (·.length)).sum + xs.length * s.length
  | [] => by rw [join_nil]; exact Nat.zero_le _
  | [x] => by rw [join_one]; simp
  | x :: y :: l => by
    have ih := len_join s (y :: l)
    rw [join_cons, str_len_app, str_len_app]
    simp only [List.map_cons, List.sum_cons, List.length_cons] at ih ⊢
    have e : (l.length + 1 + 1) * s.length = (l.length + 1) * s.length + s.length := by rw [Nat.succ_mul]
    rw [e]
    omega
theorem mem_join (s : Str) (c : Nat) : ∀ xs : List Str, c ∈ (Txt.join s xs).cps.toList → c ∈ s.cps.toList ∨ ∃ x ∈ xs, c ∈ x.cps.toList
  | [], h => by rw [join_nil] at h; exact absurd h (by simp [Str.empty])
  | [x], h => by rw [join_one] at h; exact .inr ⟨x, by simp, h⟩
  | x :: y :: l, h => by
    rw [join_cons, str_app, str_app] at h
    rcases List.mem_append.mp h with h | h
    · rcases List.mem_append.mp h with h | h
      · exact .inr ⟨x, by simp, h⟩
      · exact .inl h
    · rcases mem_join s c (y :: l) h with h | ⟨z, hz, h⟩
      · exact .inl h
      · exact .inr ⟨z, by simp at hz ⊢; exact .inr hz, h⟩
theorem strsOf_map : ∀ xs : List Str, strsOf (xs.map .str) = some xs
  | [] => rfl
  | x :: xs => by simp [strsOf, strsOf_map xs]
theorem sum_le {xs : List Str} {b : Nat} (h : ∀ x ∈ xs, x.length ≤ b) : (xs.map (·.length)).sum ≤ xs.length * b := by
  induction xs with
  | nil => simp
  | cons x xs ih =>
    have h1 := h x (by simp)
    have h2 := ih fun y hy => h y (by simp [hy])
    simp only [List.map_cons, List.sum_cons, List.length_cons, Nat.succ_mul]
    omega
theorem joinD_strs (s : Str) (xs : List Str) {b : Nat} (hs : s.length = 1) (h : ∀ x ∈ xs, x.length ≤ b) (hb : b ≤ 10000) (hl : xs.length ≤ 100) : joinD (.str s) (.lst (xs.map .str)) = some (.str (Txt.join s xs)) := by
  have h1 := sum_le h
  have h2 : xs.length * b ≤ 100 * 10000 := Nat.mul_le_mul hl hb
  have h3 : (xs.map (·.length)).sum + xs.length * s.length ≤ 16777216 := by rw [hs]; omega
  simp only [joinD, itemsD, strsOf_map, if_pos h3]
theorem splitD_join (s : Str) (xs : List Str) {b : Nat} (c : Nat) (hs : s.cps.toList = [c]) (hc : c < 256) (hne : xs ≠ []) (hx : ∀ x ∈ xs, c ∉ x.cps.toList) (h : ∀ x ∈ xs, x.length ≤ b) (hb : b ≤ 1000) (hl : xs.length ≤ 100) : splitD (.str (Txt.join s xs)) (.str s) = some (xs.map .str) := by
  have h0 : s.length = 1 := by rw [str_len, hs]; rfl
  have h1 := sum_le h
  have h2 := len_join s xs
  have h3 : xs.length * b ≤ 100 * 1000 := Nat.mul_le_mul hl hb
  have hk : s.cps.all (· < 256) = true := by
    rw [← Array.all_toList, hs]
    simp [hc]
  have h4 : (s.length == 0) = false ∧ (Txt.join s xs).length ≤ lim := by
    rw [h0] at h2 ⊢
    exact ⟨rfl, by rw [le_lim]; omega⟩
  simp only [splitD, if_pos h4]
  rw [TL.split_join (s := c) (S := []) hs hk hne hx]
def numT (n : Nat) : Str := (toString (n : Int) : String)
def habS (h : Bool × Nat) : Str := (if h.1 = true then ("take" : Str) else "pass") ++ numT h.2
def moodS (m : List (Bool × Nat)) : Str := Txt.join "," (m.map habS)
def guestS (g : Guest) : Str := Txt.join " " ("guest" :: g.map moodS)
def kindsS (k : Nat) : Str := ("kinds " : Str) ++ numT k
def lookT (l : Look) : Str := ("look " : Str) ++ lookS l
def standS (s : List Nat) : Str := Txt.join " " ("stand" :: s.map numT)
def linesF (k : Nat) (gs : List Guest) (l : Look) (ls : List (List Nat)) : List Str := kindsS k :: (gs.map guestS ++ (lookT l :: ls.map standS))
def textF (k : Nat) (gs : List Guest) (l : Look) (ls : List (List Nat)) : Str := Txt.join "\n" (linesF k gs l ls)
/-- no comma, blank, line feed -/
def plainS (x : Str) : Bool := x.cps.toList.all fun c => c != 44 && (c != 32 && c != 10)
theorem hab_plain : ∀ b : Bool, ∀ n ∈ [0, 1, 2], plainS (habS (b, n)) = true ∧ (habS (b, n)).length = 5 := by decide +kernel
theorem num_plain : ∀ n ∈ [0, 1, 2, 3], plainS (numT n) = true ∧ (numT n).length = 1 ∧ (n : Int).natAbs.log2 < 1920 := by decide +kernel
theorem lt3 {n : Nat} (h : n < 3) : n ∈ [0, 1, 2] := by
  have : n = 0 ∨ n = 1 ∨ n = 2 := by omega
  rcases this with rfl | rfl | rfl <;> decide
theorem lt4 {n : Nat} (h : n < 4) : n ∈ [0, 1, 2, 3] := by
  have : n = 0 ∨ n = 1 ∨ n = 2 ∨ n = 3 := by omega
  rcases this with rfl | rfl | rfl | rfl <;> decide
structure MoodOk (k : Nat) (m : List (Bool × Nat)) : Prop where
  len : m.length = k
  k1 : 1 ≤ k
  k3 : k ≤ 3
  lt : ∀ h ∈ m, h.2 < 3
theorem GuestOk.mood {k : Nat} {g : Guest} (h : GuestOk k g) (k1 : 1 ≤ k) (k3 : k ≤ 3) {m : List (Bool × Nat)} (hm : m ∈ g) : MoodOk k m := ⟨h.hk m hm, k1, k3, fun x hx => Nat.lt_of_lt_of_le (h.hn m hm x hx) h.m3⟩
theorem hab_ok {k : Nat} {m : List (Bool × Nat)} (h : MoodOk k m) {x : Bool × Nat} (hx : x ∈ m) : plainS (habS x) = true ∧ (habS x).length = 5 := hab_plain x.1 x.2 (lt3 (h.lt x hx))
theorem plain_not {x : Str} (h : plainS x = true) : 44 ∉ x.cps.toList ∧ 32 ∉ x.cps.toList ∧ 10 ∉ x.cps.toList := by
  unfold plainS at h
  simp only [List.all_eq_true] at h
  refine ⟨fun m => ?_, fun m => ?_, fun m => ?_⟩
  · have := h _ m; simp at this
  · have := h _ m; simp at this
  · have := h _ m; simp at this
theorem mood_ok {k : Nat} {m : List (Bool × Nat)} (h : MoodOk k m) : 32 ∉ (moodS m).cps.toList ∧ 10 ∉ (moodS m).cps.toList ∧ (moodS m).length ≤ 18 := by
  have key : ∀ c, c ≠ 44 → (∀ x ∈ m, c ∉ (habS x).cps.toList) → c ∉ (moodS m).cps.toList := fun c h44 hx hc => by
    rcases mem_join _ _ _ hc with hc | ⟨x, hx', hc⟩
    · have e : (("," : Str)).cps.toList = [44] := by decide +kernel
      rw [e] at hc
      exact h44 (by simpa using hc)
    · obtain ⟨y, hy, rfl⟩ := List.mem_map.mp hx'
      exact hx y hy hc
  refine ⟨key 32 (by decide) fun x hx => (plain_not (hab_ok h hx).1).2.1, key 10 (by decide) fun x hx => (plain_not (hab_ok h hx).1).2.2, ?_⟩
  have h1 := len_join "," (m.map habS)
  have h2 : ((m.map habS).map (·.length)).sum ≤ (m.map habS).length * 5 := sum_le fun x hx => by
    obtain ⟨y, hy, rfl⟩ := List.mem_map.mp hx
    exact Nat.le_of_eq (hab_ok h hy).2
  have e : (("," : Str)).length = 1 := by decide +kernel
  rw [e] at h1
  rw [List.length_map, h.len] at h1 h2
  have := h.k3
  unfold moodS
  omega
theorem guest_ok {k : Nat} {g : Guest} (h : GuestOk k g) (k1 : 1 ≤ k) (k3 : k ≤ 3) : 10 ∉ (guestS g).cps.toList ∧ (guestS g).length ≤ 100 := by
  constructor
  · intro hc
    rcases mem_join _ _ _ hc with hc | ⟨x, hx, hc⟩
    · have e : ((" " : Str)).cps.toList = [32] := by decide +kernel
      rw [e] at hc
      simp at hc
    · rcases List.mem_cons.mp hx with rfl | hx
      · revert hc; decide +kernel
      · obtain ⟨m, hm, rfl⟩ := List.mem_map.mp hx
        exact (mood_ok (h.mood k1 k3 hm)).2.1 hc
  · have h1 := len_join " " (("guest" : Str) :: g.map moodS)
    have h2 : ((("guest" : Str) :: g.map moodS).map (·.length)).sum ≤ (("guest" : Str) :: g.map moodS).length * 18 := sum_le fun x hx => by
      rcases List.mem_cons.mp hx with rfl | hx
      · decide +kernel
      · obtain ⟨m, hm, rfl⟩ := List.mem_map.mp hx
        exact (mood_ok (h.mood k1 k3 hm)).2.2
    have e : ((" " : Str)).length = 1 := by decide +kernel
    rw [e] at h1
    have := h.m3
    simp only [List.length_cons, List.length_map] at h1 h2
    unfold guestS
    omega
theorem stand_ok {gs : List Guest} {k : Nat} {s : List Nat} (h : RowOk k gs) (hs : stOk gs s) : (∃ a, s = [a] ∧ a < 3) ∨ ∃ a b, s = [a, b] ∧ a < 3 ∧ b < 3 := by
  rcases h.cases with ⟨g, rfl, hg⟩ | ⟨g, g', rfl, hg, hg'⟩
  · obtain ⟨a, rfl, ha⟩ := stOk1 hs
    exact .inl ⟨a, rfl, Nat.lt_of_lt_of_le ha hg.m3⟩
  · obtain ⟨a, b, rfl, ha, hb⟩ := stOk2 hs
    exact .inr ⟨a, b, rfl, Nat.lt_of_lt_of_le ha hg.m3, Nat.lt_of_lt_of_le hb hg'.m3⟩
theorem standS_ok {gs : List Guest} {k : Nat} {s : List Nat} (h : RowOk k gs) (hs : stOk gs s) : 10 ∉ (standS s).cps.toList ∧ (standS s).length ≤ 20 := by
  have k1 : ∀ a ∈ [0, 1, 2], 10 ∉ (standS [a]).cps.toList ∧ (standS [a]).length ≤ 20 := by decide +kernel
  have k2 : ∀ a ∈ [0, 1, 2], ∀ b ∈ [0, 1, 2], 10 ∉ (standS [a, b]).cps.toList ∧ (standS [a, b]).length ≤ 20 := by decide +kernel
  rcases stand_ok h hs with ⟨a, rfl, ha⟩ | ⟨a, b, rfl, ha, hb⟩
  · exact k1 a (lt3 ha)
  · exact k2 a (lt3 ha) b (lt3 hb)
theorem lines_ok {gs : List Guest} {k : Nat} {l : Look} {ls : List (List Nat)} (h : RowOk k gs) (hl : ∀ s ∈ ls, stOk gs s) : ∀ x ∈ linesF k gs l ls, 10 ∉ x.cps.toList ∧ x.length ≤ 100 := by
  intro x hx
  have hk1 := h.k1
  have hk3 := h.k3
  have kk : ∀ n ∈ [0, 1, 2, 3], 10 ∉ (kindsS n).cps.toList ∧ (kindsS n).length ≤ 100 := by decide +kernel
  have kl : ∀ l : Look, 10 ∉ (lookT l).cps.toList ∧ (lookT l).length ≤ 100 := fun l => by cases l <;> decide +kernel
  unfold linesF at hx
  rcases List.mem_cons.mp hx with rfl | hx
  · exact kk k (lt4 (by omega))
  · rcases List.mem_append.mp hx with hx | hx
    · obtain ⟨g, hg, rfl⟩ := List.mem_map.mp hx
      exact guest_ok (h.ok g hg) hk1 hk3
    · rcases List.mem_cons.mp hx with rfl | hx
      · exact kl l
      · obtain ⟨s, hs, rfl⟩ := List.mem_map.mp hx
        have := standS_ok h (hl s hs)
        exact ⟨this.1, by omega⟩
theorem join_snoc (s y : Str) : ∀ xs : List Str, xs ≠ [] → Txt.join s (xs ++ [y]) = Txt.join s xs ++ s ++ y
  | [], h => absurd rfl h
  | [x], _ => by rw [List.cons_append, List.nil_append, join_cons, join_one, join_one]
  | x :: z :: l, _ => by
    have ih := join_snoc s y (z :: l) (by simp)
    rw [List.cons_append, List.cons_append, join_cons, join_cons, ← List.cons_append, ih]
    exact str_ext (by simp [str_app])
theorem addD_str {x y : Str} (h : x.length + y.length ≤ 1000000) : addD (.str x) (.str y) = some (.str (x ++ y)) := by
  show (if _ then _ else _) = _
  rw [if_pos (by rw [le_lim]; exact h)]
end VS

set_option maxHeartbeats 4000000
namespace Gk09
open PySem PySem.Spec PyProof.Rows L2 VS
theorem hab_ge {k : Nat} {m : List (Bool × Nat)} (h : MoodOk k m) {x : Bool × Nat} (hx : x ∈ m) : (x.2 : Int).natAbs.log2 < 1920 ∧ (habS x).length ≤ 10 ∧ (numT x.2).length ≤ 1 := by
  have h1 := num_plain x.2 (lt4 (by have := h.lt x hx; omega))
  have h2 := (hab_ok h hx).2
  exact ⟨h1.2.2, by omega, by omega⟩
theorem e_mood_word {k : Nat} {m : List (Bool × Nat)} (h : MoodOk k m) (S : Sto) : C_mood_word [moodD m] S = .ok (.str (moodS m)) S := by
  refine ok_of ?_
  rw [v_mood_word]
  unfold q1_mood_word
  have hl := h.len
  have hk := h.k3
  have e1 : lcL (gT (gsCons (gN 1) (gsCons (gN 2) gsNil))) rYes q0_mood_word (wipeE [.val (moodD m), .un, .un] [1, 2]) (m.map habD) [] S = .ok (m.map fun x => .str (habS x)) S := by
    refine lcL_all ?_ (by omega)
    intro x hx
    refine ⟨_, rfl, ok_of ?_⟩
    have g := hab_ge h hx
    have g1 := g.1
    simp at g1
    have p1 : (Str.ofString "pass").length ≤ 1000000 := by decide +kernel
    have p2 : (Str.ofString "take").length ≤ 1000000 := by decide +kernel
    have hn : (numT x.2).length ≤ 1 := g.2.2
    have l1 : ((Str.ofString "pass") ++ numT x.2).length ≤ 1000000 := by
      rw [str_len_app]
      have : (Str.ofString "pass").length = 4 := by decide +kernel
      omega
    have l2 : ((Str.ofString "take") ++ numT x.2).length ≤ 1000000 := by
      rw [str_len_app]
      have : (Str.ofString "take").length = 4 := by decide +kernel
      omega
    obtain ⟨b, n⟩ := x
    unfold numT at l1 l2
    unfold q0_mood_word
    cases b
    · simp [habD, wipeE, intQ, optR, ix20, fmtD, p1, str_empty_app, g1, l1, habS, numT]
      exact l1
    · simp [habD, wipeE, intQ, optR, ix21, fmtD, p2, str_empty_app, g1, l2, habS, numT]
      exact l2
  have e2 : m.map (fun x => D.str (habS x)) = (m.map habS).map .str := by rw [List.map_map]; rfl
  rw [e2] at e1
  have e3 := joinD_strs "," (m.map habS) (b := 10) (by decide +kernel) (fun x hx => by
    obtain ⟨y, hy, rfl⟩ := List.mem_map.mp hx
    exact (hab_ge h hy).2.1) (by decide) (by simp; omega)
  have i1 : itemsD (moodD m) = some (m.map habD) := rfl
  simp [i1, optR, e1, e3, -List.map_map]
  rfl
theorem one_len {s : Str} (h : s.length = 1) : s.length ≤ 10 := by omega
theorem fmt_num {n : Nat} (h : n < 4) : fmtD (.int (n : Int)) = some (.str (numT n)) := by
  have h1 := (num_plain n (lt4 h)).2.2
  simp only [fmtD, if_pos h1]
  rfl
theorem str_num {n : Nat} (h : n < 4) : strD [.int (n : Int)] = some (.str (numT n)) := by
  have h1 := (num_plain n (lt4 h)).2.2
  simp only [strD, if_pos h1]
  rfl
theorem sub_strs (ys : List Str) : ∀ xs : List Str, xs.map D.str ++ ys.map D.str = (xs ++ ys).map .str := fun xs => by rw [List.map_append]
theorem e_stand_line {k : Nat} {gs : List Guest} {s : List Nat} (h : RowOk k gs) (hs : stOk gs s) (ρ : VS.Env) (hρ : ρ[6]? = some (.val (stD s))) (h5 : 5 < ρ.length) (S : Sto) : q1_lines_of ρ S = .ok (.str (standS s)) S := by
  refine ok_of ?_
  unfold q1_lines_of
  have hlt : ∀ a ∈ s, a < 3 := by
    rcases stand_ok h hs with ⟨a, rfl, ha⟩ | ⟨a, b, rfl, ha, hb⟩ <;> simp <;> omega
  have hsl : s.length ≤ 2 := by rw [st_len hs]; exact h.g2
  have e1 : lcL (gN 5) rYes (rCl strD (rCons (rVar 5) rNil)) (wipeE ρ [5]) (s.map fun (n : Nat) => .int (n : Int)) [] S = .ok (s.map fun n => .str (numT n)) S := by
    refine lcL_all ?_ (by omega)
    intro n hn
    have hw : 5 < (wipeE ρ [5]).length := by simpa [wipeE] using h5
    refine ⟨(wipeE ρ [5]).set 5 (.val (.int (n : Int))), by simp [gN, hw], ok_of ?_⟩
    have e2 : ((wipeE ρ [5]).set 5 (.val (.int (n : Int))))[5]? = some (.val (.int (n : Int))) := by rw [List.getElem?_set_self hw]
    have e3 := str_num (n := n) (by have := hlt n hn; omega)
    simp [e2, e3, optR]
  have e2 : s.map (fun n => D.str (numT n)) = (s.map numT).map .str := by rw [List.map_map]; rfl
  rw [e2] at e1
  have i1 : itemsD (stD s) = some (s.map fun (n : Nat) => .int (n : Int)) := rfl
  have e3 : VS.catL (.lst [.str "stand"]) (.lst ((s.map numT).map .str)) = some ((("stand" : Str) :: s.map numT).map .str) := by
    show (if _ then _ else _) = _
    rw [if_pos (by rw [le_lim]; simp; omega)]
    rfl
  have e4 := joinD_strs " " (("stand" : Str) :: s.map numT) (b := 10) (by decide +kernel) (fun x hx => by
    rcases List.mem_cons.mp hx with rfl | hx
    · decide +kernel
    · obtain ⟨n, hn, rfl⟩ := List.mem_map.mp hx
      exact one_len (num_plain n (lt4 (by have := hlt n hn; omega))).2.1) (by decide) (by simp; omega)
  simp [hρ, i1, optR, e1, e3, e4, -List.map_map, -List.map_cons]
  rfl
theorem e_guest_line {k : Nat} {g : Guest} (h : GuestOk k g) (k1 : 1 ≤ k) (k3 : k ≤ 3) (ρ : VS.Env) (hρ : ρ[4]? = some (.val (guestD g))) (h5 : 5 < ρ.length) (S : Sto) : q0_lines_of ρ S = .ok (.str (guestS g)) S := by
  refine ok_of ?_
  unfold q0_lines_of
  have hg3 := h.m3
  have e1 : lcL (gN 5) rYes (rCall C_mood_word (rCons (rVar 5) rNil)) (wipeE ρ [5]) (g.map moodD) [] S = .ok (g.map fun m => .str (moodS m)) S := by
    refine lcL_all ?_ (by omega)
    intro m hm
    have hw : 5 < (wipeE ρ [5]).length := by simpa [wipeE] using h5
    refine ⟨(wipeE ρ [5]).set 5 (.val (moodD m)), by simp [gN, hw], ok_of ?_⟩
    have e2 : ((wipeE ρ [5]).set 5 (.val (moodD m)))[5]? = some (.val (moodD m)) := by rw [List.getElem?_set_self hw]
    simp [e2, e_mood_word (h.mood k1 k3 hm) S]
  have e2 : g.map (fun m => D.str (moodS m)) = (g.map moodS).map .str := by rw [List.map_map]; rfl
  rw [e2] at e1
  have i1 : itemsD (guestD g) = some (g.map moodD) := rfl
  have e3 : VS.catL (.lst [.str "guest"]) (.lst ((g.map moodS).map .str)) = some ((("guest" : Str) :: g.map moodS).map .str) := by
    show (if _ then _ else _) = _
    rw [if_pos (by rw [le_lim]; simp; omega)]
    rfl
  have e4 := joinD_strs " " (("guest" : Str) :: g.map moodS) (b := 20) (by decide +kernel) (fun x hx => by
    rcases List.mem_cons.mp hx with rfl | hx
    · decide +kernel
    · obtain ⟨m, hm, rfl⟩ := List.mem_map.mp hx
      have := (mood_ok (h.mood k1 k3 hm)).2.2
      omega) (by decide) (by simp; omega)
  simp [hρ, i1, optR, e1, e3, e4, -List.map_map, -List.map_cons]
  rfl
theorem e_kinds {k : Nat} (h : k < 4) (ρ : VS.Env) (S : Sto) (r : VS.Env → Sto → Res D) (hr : r ρ S = .ok (.int (k : Int)) S) : rJ [(rC (.str "kinds ")), (rUn fmtD r)] Str.empty ρ S = .ok (.str (kindsS k)) S := by
  refine ok_of ?_
  have n1 := num_plain k (lt4 h)
  have p1 : (Str.ofString "kinds ").length ≤ 1000000 := by decide +kernel
  have p2 : (Str.ofString "kinds " ++ numT k).length ≤ 1000000 := by
    rw [str_len_app, n1.2.1]
    have : (Str.ofString "kinds ").length = 6 := by decide +kernel
    omega
  simp [str_empty_app, p1, hr, fmt_num h, optR, p2, kindsS]
theorem e_lookl (l : Look) (ρ : VS.Env) (S : Sto) (hr : ρ[1]? = some (.val (.str (lookS l)))) : rJ [(rC (.str "look ")), (rUn fmtD (rVar 1))] Str.empty ρ S = .ok (.str (lookT l)) S := by
  refine ok_of ?_
  have p1 : (Str.ofString "look ").length ≤ 1000000 := by decide +kernel
  have p2 : (Str.ofString "look " ++ lookS l).length ≤ 1000000 := by cases l <;> decide +kernel
  have p3 : (lookS l).length ≤ 1000000 := by cases l <;> decide +kernel
  simp [str_empty_app, p1, hr, fmtD, p3, optR, p2, lookT]
theorem lines_len {k : Nat} {gs : List Guest} {l : Look} {ls : List (List Nat)} (h : RowOk k gs) (hl : LotT gs ls) : (linesF k gs l ls).length ≤ 20 ∧ ls.length ≤ 9 ∧ gs.length ≤ 2 := by
  have h1 := (hl.len h).2
  have h2 := h.g2
  refine ⟨?_, h1, h2⟩
  simp [linesF]
  omega
theorem e_lines_of {k : Nat} {gs : List Guest} {ls : List (List Nat)} (h : RowOk k gs) (hl : LotT gs ls) (l : Look) (S : Sto) : C_lines_of [rowD k gs, .str (lookS l), .tup (ls.map stD)] S = .ok (.lst ((linesF k gs l ls).map .str)) S := by
  refine ok_of ?_
  obtain ⟨hl1, hl2, hl3⟩ := lines_len (l := l) h hl
  have hk := h.k3
  rw [v_lines_of]
  unfold q3_lines_of
  have r0 : rBin ixD (rVar 0) (rC (.int 0)) [.val (rowD k gs), .val (.str (lookS l)), .val (.tup (ls.map stD)), .un, .un, .un, .un] S = .ok (.int (k : Int)) S := by
    have e7 : ixD (rowD k gs) (.int 0) = some (.int (k : Int)) := rfl
    refine ok_of ?_
    simp [e7, optR]
  have e0 := e_kinds (k := k) (by omega) _ S _ r0
  simp only [okR_resOf, okFl_seq, w_setF, w_fz, w_chk, w_cons, e0, okR_ok, rNil, List.length_cons, List.length_nil]
  refine ⟨by decide, ?_⟩
  rw [setE, if_pos (by simp), okFl_nx]
  simp only [List.set_cons_succ, List.set_cons_zero]
  unfold q2_lines_of
  have e3 : ixD (rowD k gs) (.int 1) = some (.tup (gs.map guestD)) := rfl
  have e4 : lcL (gN 4) rYes q0_lines_of (wipeE [.val (rowD k gs), .val (.str (lookS l)), .val (.tup (ls.map stD)), .val (.lst [.str (kindsS k)]), .un, .un, .un] [4]) (gs.map guestD) [] S = .ok (gs.map fun g => .str (guestS g)) S := by
    refine lcL_all ?_ (by omega)
    intro g hg
    exact ⟨_, rfl, e_guest_line (h.ok g hg) h.k1 h.k3 _ rfl (by simp [wipeE]) S⟩
  have e5 : gs.map (fun g => D.str (guestS g)) = (gs.map guestS).map .str := by rw [List.map_map]; rfl
  rw [e5] at e4
  have c1 : 1 + gs.length ≤ 1000000 := by omega
  simp [-rJ, e3, itemsD, optR, e4, addQ, c1, -List.map_map]
  have e6 := e_lookl l [.val (rowD k gs), .val (.str (lookS l)), .val (.tup (ls.map stD)), .val (.lst (.str (kindsS k) :: (gs.map guestS).map .str)), .un, .un, .un] S rfl
  have e7 : lcL (gN 6) rYes q1_lines_of (wipeE [.val (rowD k gs), .val (.str (lookS l)), .val (.tup (ls.map stD)), .val (.lst (.str (kindsS k) :: (gs.map guestS).map .str)), .un, .un, .un] [6]) (ls.map stD) [] S = .ok (ls.map fun s => .str (standS s)) S := by
    refine lcL_all ?_ (by omega)
    intro s hs
    exact ⟨_, rfl, e_stand_line h (hl.st s hs) _ rfl (by simp [wipeE]) S⟩
  have e8 : ls.map (fun s => D.str (standS s)) = (ls.map standS).map .str := by rw [List.map_map]; rfl
  rw [e8] at e7
  have c2 : VS.catL (.lst (.str (kindsS k) :: (gs.map guestS).map .str)) (.lst [.str (lookT l)]) = some ((D.str (kindsS k) :: (gs.map guestS).map D.str) ++ [D.str (lookT l)]) := by
    show (if _ then _ else _) = _
    rw [if_pos (by rw [le_lim]; simp; omega)]
  have c3 : ((D.str (kindsS k) :: (gs.map guestS).map D.str) ++ [D.str (lookT l)]).length + ((ls.map standS).map D.str).length ≤ 1000000 := by simp; omega
  simp only [e6, okR_ok, c2, e7, if_pos c3]
  simp [linesF]
theorem e_cook_text {k : Nat} {gs : List Guest} {ls : List (List Nat)} (h : RowOk k gs) (hg : gd 9 9 (rowD k gs) = true) (hl : LotT gs ls) (l : Look) (S : Sto) : C_cook_text [rowD k gs, .str (lookS l), .tup (ls.map stD)] S = .ok (.str (textF k gs l ls)) S := by
  refine ok_of ?_
  obtain ⟨hl1, hl2, hl3⟩ := lines_len (l := l) h hl
  have e1 := e_cook_ok h (row_back h) hg hl l S
  have e2 := e_lines_of h hl l S
  have e3 := joinD_strs "\n" (linesF k gs l ls) (b := 100) (by decide +kernel) (fun x hx => (lines_ok h hl.st x hx).2) (by decide) (by omega)
  rw [v_cook_text]
  unfold q0_cook_text
  simp [e1, e2, e3, optR]
  rfl
end Gk09

set_option maxHeartbeats 4000000
namespace Gk09
open PySem PySem.Spec PyProof.Rows L2 VS
structure WrG (k : Nat) (gs : List Guest) (l : Look) (ls : List (List Nat)) (S : Sto) (l' : List D) (ρ : VS.Env) (S' : Sto) : Prop where
  ex : S' = S ∧ ∃ (done rest : List Guest) (a4 a5 a6 : Sl), gs = done ++ rest ∧ l' = rest.map guestD ∧ ρ = [.val (rowD k gs), .val (.str (lookS l)), .val (.tup (ls.map stD)), .ol ((kindsS k :: done.map guestS).map .str), a4, a5, a6, .un, .un, .un]
structure WrM (k : Nat) (gs : List Guest) (l : Look) (ls : List (List Nat)) (a3 : Sl) (g : Guest) (S : Sto) (l' : List D) (ρ : VS.Env) (S' : Sto) : Prop where
  ex : S' = S ∧ ∃ (done rest : List (List (Bool × Nat))) (a6 : Sl), g = done ++ rest ∧ l' = rest.map moodD ∧ ρ = [.val (rowD k gs), .val (.str (lookS l)), .val (.tup (ls.map stD)), a3, .val (guestD g), .val (.str (Txt.join " " ("guest" :: done.map moodS))), a6, .un, .un, .un]
structure WrS (k : Nat) (gs : List Guest) (l : Look) (ls : List (List Nat)) (S : Sto) (l' : List D) (ρ : VS.Env) (S' : Sto) : Prop where
  ex : S' = S ∧ ∃ (done rest : List (List Nat)) (a4 a5 a6 a7 : Sl), ls = done ++ rest ∧ l' = rest.map stD ∧ ρ = [.val (rowD k gs), .val (.str (lookS l)), .val (.tup (ls.map stD)), .ol ((kindsS k :: (gs.map guestS ++ lookT l :: done.map standS)).map .str), a4, a5, a6, a7, .un, .un]
theorem e_wmood {k : Nat} {m : List (Bool × Nat)} (h : MoodOk k m) (ρ : VS.Env) (hρ : ρ[6]? = some (.val (moodD m))) (h9 : ρ.length = 10) (S : Sto) : rM1 joinD (rC (.str ",")) (rUp (rLc (rItems (rVar 6)) [8, 9] (gT (gsCons (gN 8) (gsCons (gN 9) gsNil))) rYes q0__law_writing)) ρ S = .ok (.str (moodS m)) S := by
  refine ok_of ?_
  have hl := h.len
  have hk := h.k3
  have hw : (wipeE ρ [8, 9]).length = 10 := by simp [wipeE, h9]
  have e1 : lcL (gT (gsCons (gN 8) (gsCons (gN 9) gsNil))) rYes q0__law_writing (wipeE ρ [8, 9]) (m.map habD) [] S = .ok (m.map fun x => .str (habS x)) S := by
    refine lcL_all ?_ (by omega)
    intro x hx
    refine ⟨((wipeE ρ [8, 9]).set 8 (.val (.bl x.1))).set 9 (.val (.int (x.2 : Int))), by simp [gT, gsCons, gsNil, gN, habD, hw], ok_of ?_⟩
    have s8 : (((wipeE ρ [8, 9]).set 8 (.val (.bl x.1))).set 9 (.val (.int (x.2 : Int))))[8]? = some (.val (.bl x.1)) := by
      rw [List.getElem?_set_ne (by decide), List.getElem?_set_self (by omega)]
    have s9 : (((wipeE ρ [8, 9]).set 8 (.val (.bl x.1))).set 9 (.val (.int (x.2 : Int))))[9]? = some (.val (.int (x.2 : Int))) := by
      rw [List.getElem?_set_self (by simp; omega)]
    have hn : x.2 < 3 := h.lt x hx
    have e3 := str_num (n := x.2) (by omega)
    have hn1 := (num_plain x.2 (lt4 (by omega))).2.1
    have a1 := addD_str (x := "pass") (y := numT x.2) (by rw [hn1]; decide +kernel)
    have a2 := addD_str (x := "take") (y := numT x.2) (by rw [hn1]; decide +kernel)
    have l20 : ∀ a b : D, ixD (.lst [a, b]) (.int 0) = some a := fun _ _ => rfl
    have l21 : ∀ a b : D, ixD (.lst [a, b]) (.int 1) = some b := fun _ _ => rfl
    generalize ((wipeE ρ [8, 9]).set 8 (.val (.bl x.1))).set 9 (.val (.int (x.2 : Int))) = ρ9 at s8 s9 ⊢
    unfold q0__law_writing
    cases hb : x.1
    · rw [hb] at s8
      simp [s8, s9, intQ, optR, l20, e3, a1, habS, hb]
    · rw [hb] at s8
      simp [s8, s9, intQ, optR, l21, e3, a2, habS, hb]
  have e2 : m.map (fun x => D.str (habS x)) = (m.map habS).map .str := by rw [List.map_map]; rfl
  rw [e2] at e1
  have e3 := joinD_strs "," (m.map habS) (b := 10) (by decide +kernel) (fun x hx => by
    obtain ⟨y, hy, rfl⟩ := List.mem_map.mp hx
    exact (hab_ge h hy).2.1) (by decide) (by simp; omega)
  have i1 : itemsD (moodD m) = some (m.map habD) := rfl
  simp [hρ, i1, optR, e1, e3, -List.map_map]
  rfl
theorem e_wstand {k : Nat} {gs : List Guest} {s : List Nat} (h : RowOk k gs) (hs : stOk gs s) (ρ : VS.Env) (hρ : ρ[7]? = some (.val (stD s))) (h6 : 6 < ρ.length) (S : Sto) : rM1 joinD (rC (.str " ")) (rUp (rBin catL (rUp (chkLen (rCons (rC (.str "stand")) rNil))) (rUp (rLc (rItems (rVar 7)) [6] (gN 6) rYes (rCl strD (rCons (rVar 6) rNil)))))) ρ S = .ok (.str (standS s)) S := by
  refine ok_of ?_
  have hlt : ∀ a ∈ s, a < 3 := by
    rcases stand_ok h hs with ⟨a, rfl, ha⟩ | ⟨a, b, rfl, ha, hb⟩ <;> simp <;> omega
  have hsl : s.length ≤ 2 := by rw [st_len hs]; exact h.g2
  have e1 : lcL (gN 6) rYes (rCl strD (rCons (rVar 6) rNil)) (wipeE ρ [6]) (s.map fun (n : Nat) => .int (n : Int)) [] S = .ok (s.map fun n => .str (numT n)) S := by
    refine lcL_all ?_ (by omega)
    intro n hn
    have hw : 6 < (wipeE ρ [6]).length := by simpa [wipeE] using h6
    refine ⟨(wipeE ρ [6]).set 6 (.val (.int (n : Int))), by simp [gN, hw], ok_of ?_⟩
    have e2 : ((wipeE ρ [6]).set 6 (.val (.int (n : Int))))[6]? = some (.val (.int (n : Int))) := by rw [List.getElem?_set_self hw]
    have e3 := str_num (n := n) (by have := hlt n hn; omega)
    simp [e2, e3, optR]
  have e2 : s.map (fun n => D.str (numT n)) = (s.map numT).map .str := by rw [List.map_map]; rfl
  rw [e2] at e1
  have i1 : itemsD (stD s) = some (s.map fun (n : Nat) => .int (n : Int)) := rfl
  have e3 : VS.catL (.lst [.str "stand"]) (.lst ((s.map numT).map .str)) = some ((("stand" : Str) :: s.map numT).map .str) := by
    show (if _ then _ else _) = _
    rw [if_pos (by rw [le_lim]; simp; omega)]
    rfl
  have e4 := joinD_strs " " (("stand" : Str) :: s.map numT) (b := 10) (by decide +kernel) (fun x hx => by
    rcases List.mem_cons.mp hx with rfl | hx
    · decide +kernel
    · obtain ⟨n, hn, rfl⟩ := List.mem_map.mp hx
      exact one_len (num_plain n (lt4 (by have := hlt n hn; omega))).2.1) (by decide) (by simp; omega)
  simp [hρ, i1, optR, e1, e3, e4, -List.map_map, -List.map_cons]
  rfl
theorem e_law_writing {k : Nat} {gs : List Guest} {ls : List (List Nat)} (h : RowOk k gs) (hl : LotT gs ls) (l : Look) (S : Sto) : C__law_writing [rowD k gs, .str (lookS l), .tup (ls.map stD)] S = .ok (.str (textF k gs l ls)) S := by
  refine ok_of ?_
  obtain ⟨hl1, hl2, hl3⟩ := lines_len (l := l) h hl
  have hk := h.k3
  have e0 : ixD (rowD k gs) (.int 0) = some (.int (k : Int)) := rfl
  have e1 : ixD (rowD k gs) (.int 1) = some (.tup (gs.map guestD)) := rfl
  have n1 := num_plain k (lt4 (by omega))
  have a1 := addD_str (x := "kinds ") (y := numT k) (by rw [n1.2.1]; decide +kernel)
  rw [v__law_writing]
  unfold q8__law_writing
  simp [e0, optR, str_num (n := k) (by omega), a1]
  unfold q7__law_writing
  simp [e1, itemsD, optR]
  refine okFl_for (WrG k gs l ls S) ?_ ?_ ⟨rfl, [], gs, _, _, _, rfl, rfl, rfl⟩
  · rintro d l' ρ S' ⟨rfl, done, rest, a4, a5, a6, f1, f2, rfl⟩
    cases rest with
    | nil => simp at f2
    | cons g rest =>
      simp at f2
      obtain ⟨rfl, rfl⟩ := f2
      refine ⟨_, rfl, ?_⟩
      have hg : GuestOk k g := h.ok g (by rw [f1]; simp)
      have hg3 := hg.m3
      unfold q3__law_writing
      simp
      unfold q2__law_writing
      have i1 : itemsD (guestD g) = some (g.map moodD) := rfl
      simp [i1, optR]
      refine okFl_for (WrM k gs l ls (.ol ((kindsS k :: done.map guestS).map .str)) g S') ?_ ?_ ⟨rfl, [], g, _, rfl, rfl, by simp [VS.join_one]; exact rfl⟩
      · rintro d2 l2 ρ S2 ⟨rfl, dm, rm, b6, f3, f4, rfl⟩
        cases rm with
        | nil => simp at f4
        | cons m rm =>
          simp at f4
          obtain ⟨rfl, rfl⟩ := f4
          refine ⟨_, rfl, ?_⟩
          have hm : m ∈ g := by rw [f3]; simp
          have e5 := e_wmood (hg.mood h.k1 h.k3 hm) [.val (rowD k gs), .val (.str (lookS l)), .val (.tup (ls.map stD)), .ol ((kindsS k :: done.map guestS).map .str), .val (guestD g), .val (.str (Txt.join " " ("guest" :: dm.map moodS))), .val (moodD m), .un, .un, .un] rfl rfl S2
          have hlen : (Txt.join " " ("guest" :: dm.map moodS)).length ≤ 200 := by
            have h1 := len_join " " (("guest" : Str) :: dm.map moodS)
            have h2 : ((("guest" : Str) :: dm.map moodS).map (·.length)).sum ≤ (("guest" : Str) :: dm.map moodS).length * 18 := sum_le fun x hx => by
              rcases List.mem_cons.mp hx with rfl | hx
              · decide +kernel
              · obtain ⟨m', hm', rfl⟩ := List.mem_map.mp hx
                exact (mood_ok (hg.mood h.k1 h.k3 (by rw [f3]; simp [hm']))).2.2
            have e : ((" " : Str)).length = 1 := by decide +kernel
            rw [e] at h1
            have hdl : dm.length + 1 ≤ 3 := by
              have : g.length = dm.length + (rm.length + 1) := by rw [f3]; simp
              omega
            simp only [List.length_cons, List.length_map] at h1 h2
            omega
          have e1l : ((" " : Str)).length = 1 := by decide +kernel
          have a2 := addD_str (x := Txt.join " " ("guest" :: dm.map moodS)) (y := " ") (by rw [e1l]; omega)
          have hml := (mood_ok (hg.mood h.k1 h.k3 hm)).2.2
          have a3 := addD_str (x := Txt.join " " ("guest" :: dm.map moodS) ++ " ") (y := moodS m) (by rw [str_len_app, e1l]; omega)
          have a4 : addQ (.str (Txt.join " " ("guest" :: dm.map moodS) ++ " ")) (.str (moodS m)) = addD (.str (Txt.join " " ("guest" :: dm.map moodS) ++ " ")) (.str (moodS m)) := rfl
          have sn := join_snoc " " (moodS m) (("guest" : Str) :: dm.map moodS) (by simp)
          unfold q1__law_writing
          simp only [w_setF, w_bin, rVar, rC, List.set_cons_succ, List.set_cons_zero, List.getElem?_cons_succ, List.getElem?_cons_zero, okR_ok, a2, optR, e5, a4, a3]
          simp
          exact ⟨rfl, dm ++ [m], rm, .val (moodD m), by rw [f3]; simp, rfl, by rw [show (("guest" : Str) :: (dm ++ [m]).map moodS) = ((("guest" : Str) :: dm.map moodS) ++ [moodS m]) by simp, sn]⟩
      · rintro ρ S2 ⟨rfl, dm, rm, b6, f3, f4, rfl⟩
        cases rm with
        | cons m rm => simp at f4
        | nil =>
          simp at f3
          subst f3
          have : done.length + (rest.length + 1) = gs.length := by rw [f1]; simp
          simp
          refine ⟨by omega, ?_⟩
          exact ⟨rfl, done ++ [g], rest, _, _, _, by rw [f1]; simp, rfl, by simp [guestS]; exact ⟨rfl, rfl, rfl⟩⟩
  · rintro ρ S' ⟨rfl, done, rest, a4, a5, a6, f1, f2, rfl⟩
    cases rest with
    | cons g rest => simp at f2
    | nil =>
      simp at f1
      subst f1
      have a2 := addD_str (x := "look ") (y := lookS l) (by cases l <;> decide +kernel)
      unfold q6__law_writing
      simp [a2, optR]
      refine ⟨by omega, ?_⟩
      unfold q5__law_writing
      simp [itemsD, optR]
      refine okFl_for (WrS k gs l ls S') ?_ ?_ ⟨rfl, [], ls, _, _, _, _, rfl, rfl, by simp [lookT]; exact ⟨rfl, rfl, rfl, rfl⟩⟩
      · rintro d l' ρ S2 ⟨rfl, done, rest, b4, b5, b6, b7, f1, f2, rfl⟩
        cases rest with
        | nil => simp at f2
        | cons s rest =>
          simp at f2
          obtain ⟨rfl, rfl⟩ := f2
          refine ⟨_, rfl, ?_⟩
          have e5 := e_wstand h (hl.st s (by rw [f1]; simp)) [.val (rowD k gs), .val (.str (lookS l)), .val (.tup (ls.map stD)), .ol ((kindsS k :: (gs.map guestS ++ lookT l :: done.map standS)).map .str), b4, b5, b6, .val (stD s), .un, .un] rfl (by simp) S2
          have : done.length + (rest.length + 1) = ls.length := by rw [f1]; simp
          unfold q4__law_writing rApp
          simp only [List.set_cons_succ, List.set_cons_zero, List.getElem?_cons_succ, List.getElem?_cons_zero, e5, Res.thenS_ok]
          rw [if_pos (by simp; omega)]
          simp
          exact ⟨rfl, done ++ [s], rest, _, _, _, _, by rw [f1]; simp, rfl, by simp; exact ⟨rfl, rfl, rfl, rfl⟩⟩
      · rintro ρ S2 ⟨rfl, done, rest, b4, b5, b6, b7, f1, f2, rfl⟩
        cases rest with
        | cons s rest => simp at f2
        | nil =>
          simp at f1
          subst f1
          have e3 := joinD_strs "\n" (linesF k gs l ls) (b := 100) (by decide +kernel) (fun x hx => (lines_ok h hl.st x hx).2) (by decide) (by omega)
          unfold linesF at e3
          simp [fzAt]
          simp at e3
          simp [e3, optR, textF, linesF]
end Gk09

set_option maxHeartbeats 4000000
namespace Gk09
open PySem PySem.Spec PyProof.Rows L2 VS
theorem hin0 : (C_habit_in [.str (habS (false, 0))] = fun S => .ok (habD (false, 0)) S) ∧ (C_habit_in [.str (habS (false, 1))] = fun S => .ok (habD (false, 1)) S) ∧ (C_habit_in [.str (habS (false, 2))] = fun S => .ok (habD (false, 2)) S) := ⟨by funext S; kernel_rfl, by funext S; kernel_rfl, by funext S; kernel_rfl⟩
theorem hin1 : (C_habit_in [.str (habS (true, 0))] = fun S => .ok (habD (true, 0)) S) ∧ (C_habit_in [.str (habS (true, 1))] = fun S => .ok (habD (true, 1)) S) ∧ (C_habit_in [.str (habS (true, 2))] = fun S => .ok (habD (true, 2)) S) := ⟨by funext S; kernel_rfl, by funext S; kernel_rfl, by funext S; kernel_rfl⟩
theorem e_habit_in (x : Bool × Nat) (h : x.2 < 3) (S : Sto) : C_habit_in [.str (habS x)] S = .ok (habD x) S := by
  obtain ⟨b, n⟩ := x
  have : n = 0 ∨ n = 1 ∨ n = 2 := by simp at h; omega
  cases b <;> rcases this with rfl | rfl | rfl
  · rw [hin0.1]
  · rw [hin0.2.1]
  · rw [hin0.2.2]
  · rw [hin1.1]
  · rw [hin1.2.1]
  · rw [hin1.2.2]
theorem guestB_ok {k : Nat} {g : Guest} (h : GuestOk k g) : guestB (k : Int) (guestD g) = true := by
  have := h.m1
  have := h.m3
  simp [guestB, guestD, itemsB, tallB, tlen]
  refine ⟨⟨by omega, by omega⟩, fun m hm => ?_⟩
  have key : ∀ x ∈ m, habitB (g.length : Int) (habD x) = true := fun x hx => by
    have := h.hn m hm x hx
    simp [habitB, habD, withinB]
    omega
  simp [moodB, moodD, itemsB, tallB, h.hk m hm]
  exact ⟨fun b hb => key _ hb, fun b hb => key _ hb⟩
theorem gd_guest {k : Nat} {g : Guest} (h : GuestOk k g) (k3 : k ≤ 3) : gd 9 5 (guestD g) = true := by
  have := h.m3
  simp [guestD, gd]
  refine ⟨by omega, fun m hm => ?_⟩
  have := h.hk m hm
  simp [moodD, gd, habD]
  omega
theorem e_habits {m : List (Bool × Nat)} (hm : ∀ x ∈ m, x.2 < 3) (hl : m.length ≤ 100) (ρ : VS.Env) (h3 : 3 < ρ.length) (S : Sto) : lcL (gN 3) rYes (rCall C_habit_in (rCons (rVar 3) rNil)) ρ (m.map fun x => .str (habS x)) [] S = .ok (m.map habD) S := by
  refine lcL_all ?_ hl
  intro x hx
  refine ⟨ρ.set 3 (.val (.str (habS x))), by simp [gN, h3], ok_of ?_⟩
  have e2 : (ρ.set 3 (.val (.str (habS x))))[3]? = some (.val (.str (habS x))) := by rw [List.getElem?_set_self h3]
  simp [e2, e_habit_in x (hm x hx) S]
theorem e_guest_in {k : Nat} {g : Guest} (h : GuestOk k g) (k1 : 1 ≤ k) (k3 : k ≤ 3) (S : Sto) : C_guest_in [.lst ((g.map moodS).map .str)] S = .ok (guestD g) S := by
  refine ok_of ?_
  have hg1 := h.m1
  have hg3 := h.m3
  rw [v_guest_in]
  unfold q2_guest_in
  have e1 : lcL (gN 2) rYes q0_guest_in (wipeE [.val (.lst ((g.map moodS).map .str)), .un, .un, .un] [2]) ((g.map moodS).map .str) [] S = .ok (g.map moodD) S := by
    rw [List.map_map]
    refine lcL_all ?_ (by omega)
    intro m hm
    refine ⟨_, rfl, ok_of ?_⟩
    have hm' := h.mood k1 k3 hm
    have hml := hm'.len
    have e2 := splitD_join "," (m.map habS) (b := 10) 44 (by decide +kernel) (by decide) (by
      intro z
      simp at z
      rw [z] at hml
      simp at hml
      omega) (fun x hx => by
      obtain ⟨y, hy, rfl⟩ := List.mem_map.mp hx
      exact (plain_not (hab_ok hm' hy).1).1) (fun x hx => by
      obtain ⟨y, hy, rfl⟩ := List.mem_map.mp hx
      have := (hab_ok hm' hy).2
      omega) (by decide) (by simp; omega)
    have e4 : (m.map habS).map D.str = m.map fun x => .str (habS x) := by rw [List.map_map]; rfl
    rw [e4] at e2
    unfold q0_guest_in
    have e3 := fun ρ h3 => e_habits hm'.lt (by omega) ρ h3 S
    simp [wipeE, moodS, e2, optR, itemsD, e3, tupD, moodD, -List.map_map]
  have i1 : itemsD (.lst ((g.map moodS).map .str)) = some ((g.map moodS).map .str) := rfl
  simp [i1, optR, e1, fzAt, -List.map_map]
  unfold q1_guest_in
  have gg := gd_guest h k3
  have ggl : gd 9 5 (.lst (g.map moodD)) = true := by
    unfold guestD at gg
    obtain ⟨j, e, h1, h2⟩ := gd_tup gg
    cases e
    exact (gdT h1 h2).2
  have e5 := eqD_lst_nil (gd_shp ggl (by decide))
  have e6 : (g.map moodD).isEmpty = false := by
    cases g with
    | nil => simp at hg1
    | cons a b => rfl
  rw [e6] at e5
  have e7 : ∃ m0 ∈ g, ixD (.lst (g.map moodD)) (.int 0) = some (moodD m0) := by
    cases g with
    | nil => simp at hg1
    | cons a b => exact ⟨a, by simp, by simp [ixD, L2.atI, L2.ixN]⟩
  obtain ⟨m0, hm0, e7⟩ := e7
  have hk0 := h.hk m0 hm0
  have e8 : lenD [moodD m0] = some (.int (k : Int)) := by
    show some (D.int ((m0.map habD).length : Int)) = _
    simp [hk0]
  have e9 := e_is_guest (guestD g) (k : Int) S gg (by decide)
  rw [guestB_ok h] at e9
  have e10 : tupD [.lst (g.map moodD)] = some (guestD g) := rfl
  have e11 : gtI (.int (k : Int)) (.int 3) = some (.bl false) := by
    simp [gtI, iBin]
    omega
  simp [e5, optR, asB, e7, e8, e10, e9, e11]
theorem pk : (C_piece_of [.str (kindsS 1)] = fun S => .ok (.tup [.str "kinds", .int 1]) S) ∧ (C_piece_of [.str (kindsS 2)] = fun S => .ok (.tup [.str "kinds", .int 2]) S) ∧ (C_piece_of [.str (kindsS 3)] = fun S => .ok (.tup [.str "kinds", .int 3]) S) := ⟨by funext S; kernel_rfl, by funext S; kernel_rfl, by funext S; kernel_rfl⟩
theorem e_piece_kinds {k : Nat} (k1 : 1 ≤ k) (k3 : k ≤ 3) (S : Sto) : C_piece_of [.str (kindsS k)] S = .ok (.tup [.str "kinds", .int (k : Int)]) S := by
  have : k = 1 ∨ k = 2 ∨ k = 3 := by omega
  rcases this with rfl | rfl | rfl
  · rw [pk.1]; rfl
  · rw [pk.2.1]; rfl
  · rw [pk.2.2]; rfl
theorem pl0 : C_piece_of [.str (lookT .who)] = fun S => .ok (.tup [.str "look", .str "who"]) S := by funext S; kernel_rfl
theorem pl1 : C_piece_of [.str (lookT .left)] = fun S => .ok (.tup [.str "look", .str "left"]) S := by funext S; kernel_rfl
theorem pl2 : C_piece_of [.str (lookT .non)] = fun S => .ok (.tup [.str "look", .str "none"]) S := by funext S; kernel_rfl
theorem e_piece_look (l : Look) (S : Sto) : C_piece_of [.str (lookT l)] S = .ok (.tup [.str "look", .str (lookS l)]) S := by
  cases l
  · rw [pl0]; rfl
  · rw [pl1]; rfl
  · rw [pl2]; rfl
theorem ps1 : (C_piece_of [.str (standS [0])] = fun S => .ok (.tup [.str "stand", stD [0]]) S) ∧ (C_piece_of [.str (standS [1])] = fun S => .ok (.tup [.str "stand", stD [1]]) S) ∧ (C_piece_of [.str (standS [2])] = fun S => .ok (.tup [.str "stand", stD [2]]) S) := ⟨by funext S; kernel_rfl, by funext S; kernel_rfl, by funext S; kernel_rfl⟩
theorem ps20 : (C_piece_of [.str (standS [0, 0])] = fun S => .ok (.tup [.str "stand", stD [0, 0]]) S) ∧ (C_piece_of [.str (standS [0, 1])] = fun S => .ok (.tup [.str "stand", stD [0, 1]]) S) ∧ (C_piece_of [.str (standS [0, 2])] = fun S => .ok (.tup [.str "stand", stD [0, 2]]) S) := ⟨by funext S; kernel_rfl, by funext S; kernel_rfl, by funext S; kernel_rfl⟩
theorem ps21 : (C_piece_of [.str (standS [1, 0])] = fun S => .ok (.tup [.str "stand", stD [1, 0]]) S) ∧ (C_piece_of [.str (standS [1, 1])] = fun S => .ok (.tup [.str "stand", stD [1, 1]]) S) ∧ (C_piece_of [.str (standS [1, 2])] = fun S => .ok (.tup [.str "stand", stD [1, 2]]) S) := ⟨by funext S; kernel_rfl, by funext S; kernel_rfl, by funext S; kernel_rfl⟩
theorem ps22 : (C_piece_of [.str (standS [2, 0])] = fun S => .ok (.tup [.str "stand", stD [2, 0]]) S) ∧ (C_piece_of [.str (standS [2, 1])] = fun S => .ok (.tup [.str "stand", stD [2, 1]]) S) ∧ (C_piece_of [.str (standS [2, 2])] = fun S => .ok (.tup [.str "stand", stD [2, 2]]) S) := ⟨by funext S; kernel_rfl, by funext S; kernel_rfl, by funext S; kernel_rfl⟩
theorem e_piece_stand {k : Nat} {gs : List Guest} {s : List Nat} (h : RowOk k gs) (hs : stOk gs s) (S : Sto) : C_piece_of [.str (standS s)] S = .ok (.tup [.str "stand", stD s]) S := by
  rcases stand_ok h hs with ⟨a, rfl, ha⟩ | ⟨a, b, rfl, ha, hb⟩
  · have : a = 0 ∨ a = 1 ∨ a = 2 := by omega
    rcases this with rfl | rfl | rfl
    · rw [ps1.1]
    · rw [ps1.2.1]
    · rw [ps1.2.2]
  · have h1 : a = 0 ∨ a = 1 ∨ a = 2 := by omega
    have h2 : b = 0 ∨ b = 1 ∨ b = 2 := by omega
    rcases h1 with rfl | rfl | rfl <;> rcases h2 with rfl | rfl | rfl
    · rw [ps20.1]
    · rw [ps20.2.1]
    · rw [ps20.2.2]
    · rw [ps21.1]
    · rw [ps21.2.1]
    · rw [ps21.2.2]
    · rw [ps22.1]
    · rw [ps22.2.1]
    · rw [ps22.2.2]
theorem ne_words : eqD (.str "guest") (.str "kinds") = some (.bl false) ∧ eqD (.str "guest") (.str "look") = some (.bl false) ∧ eqD (.str "guest") (.str "stand") = some (.bl false) ∧ eqD (.str "guest") (.str "guest") = some (.bl true) := ⟨by kernel_rfl, by kernel_rfl, by kernel_rfl, by kernel_rfl⟩
theorem cut_tail (a : D) (l : List D) : VS.cut (a :: l) (some 1) none = l := by
  unfold VS.cut HT.sIx
  simp
theorem e_piece_guest {k : Nat} {g : Guest} (h : GuestOk k g) (k1 : 1 ≤ k) (k3 : k ≤ 3) (S : Sto) : C_piece_of [.str (guestS g)] S = .ok (.tup [.str "guest", guestD g]) S := by
  refine ok_of ?_
  have hg3 := h.m3
  have e1 := splitD_join " " (("guest" : Str) :: g.map moodS) (b := 20) 32 (by decide +kernel) (by decide) (by simp) (fun x hx => by
    rcases List.mem_cons.mp hx with rfl | hx
    · decide +kernel
    · obtain ⟨m, hm, rfl⟩ := List.mem_map.mp hx
      exact (mood_ok (h.mood k1 k3 hm)).1) (fun x hx => by
    rcases List.mem_cons.mp hx with rfl | hx
    · decide +kernel
    · obtain ⟨m, hm, rfl⟩ := List.mem_map.mp hx
      have := (mood_ok (h.mood k1 k3 hm)).2.2
      omega) (by decide) (by simp; omega)
  have e2 : ixD (.lst (.str "guest" :: (g.map moodS).map .str)) (.int 0) = some (.str "guest") := by simp [ixD, L2.atI, L2.ixN]
  have e3 : sliceQ (.lst (.str "guest" :: (g.map moodS).map .str)) (some 1) none = some (.lst ((g.map moodS).map .str)) := by
    show some (D.lst (VS.cut _ _ _)) = _
    rw [cut_tail]
  have e4 := e_guest_in h k1 k3 S
  rw [List.map_cons] at e1
  rw [v_piece_of]
  unfold q6_piece_of guestS
  simp [e1, optR, -List.map_map]
  unfold q5_piece_of
  simp [e2, optR, ne_words.1, asB, -List.map_map]
  unfold q4_piece_of
  simp [e2, optR, ne_words.2.1, asB, -List.map_map]
  unfold q3_piece_of
  simp [e2, optR, ne_words.2.2.1, asB, -List.map_map]
  unfold q2_piece_of
  simp [e2, optR, ne_words.2.2.2, asB, asI, e3, e4, notND, VS.isNon, guestD, -List.map_map]
def piecesD (k : Nat) (gs : List Guest) (l : Look) (ls : List (List Nat)) : List D := .tup [.str "kinds", .int (k : Int)] :: (gs.map (fun g => .tup [.str "guest", guestD g]) ++ (.tup [.str "look", .str (lookS l)] :: ls.map fun s => .tup [.str "stand", stD s]))
def Reads (x : Str) (d : D) : Prop := ∀ S, C_piece_of [.str x] S = .ok d S ∧ d ≠ .non
theorem reads_all {k : Nat} {gs : List Guest} {l : Look} {ls : List (List Nat)} (h : RowOk k gs) (hl : ∀ s ∈ ls, stOk gs s) : Paired Reads (linesF k gs l ls) (piecesD k gs l ls) := by
  unfold linesF piecesD
  refine .cons (fun S => ⟨e_piece_kinds h.k1 h.k3 S, fun z => by cases z⟩) ?_
  have app : ∀ {a b : List Str} {c d : List D}, Paired Reads a c → Paired Reads b d → Paired Reads (a ++ b) (c ++ d) := fun {a b c d} x y => by
    induction x with
    | nil => exact y
    | cons r _ ih => exact .cons r ih
  have mp : ∀ {α : Type} (f : α → Str) (g : α → D) (xs : List α), (∀ x ∈ xs, Reads (f x) (g x)) → Paired Reads (xs.map f) (xs.map g) := fun f g xs hx => by
    induction xs with
    | nil => exact .nil
    | cons x xs ih => exact .cons (hx x (by simp)) (ih fun y hy => hx y (by simp [hy]))
  refine app (mp _ _ _ fun g hg S => ⟨e_piece_guest (h.ok g hg) h.k1 h.k3 S, fun z => by cases z⟩) (.cons (fun S => ⟨e_piece_look l S, fun z => by cases z⟩) (mp _ _ _ fun s hs S => ⟨e_piece_stand h (hl s hs) S, fun z => by cases z⟩))
def wordP (w : Str) : D → Bool
  | .tup [.str x, _] => x == w
  | _ => false
def partP : D → D
  | .tup [_, y] => y
  | _ => .non
theorem w_ok : PyData.strOk ("kinds" : Str) = true ∧ PyData.strOk ("guest" : Str) = true ∧ PyData.strOk ("look" : Str) = true ∧ PyData.strOk ("stand" : Str) = true := by decide +kernel
theorem pieces_form {k : Nat} {gs : List Guest} {l : Look} {ls : List (List Nat)} : ∀ d ∈ piecesD k gs l ls, ∃ x y, d = .tup [.str x, y] ∧ PyData.strOk x = true := by
  intro d hd
  unfold piecesD at hd
  rcases List.mem_cons.mp hd with rfl | hd
  · exact ⟨_, _, rfl, w_ok.1⟩
  · rcases List.mem_append.mp hd with hd | hd
    · obtain ⟨g, -, rfl⟩ := List.mem_map.mp hd
      exact ⟨_, _, rfl, w_ok.2.1⟩
    · rcases List.mem_cons.mp hd with rfl | hd
      · exact ⟨_, _, rfl, w_ok.2.2.1⟩
      · obtain ⟨s, -, rfl⟩ := List.mem_map.mp hd
        exact ⟨_, _, rfl, w_ok.2.2.2⟩
theorem comp_word {w : Str} (hw : PyData.strOk w = true) {l : List D} (hf : ∀ d ∈ l, ∃ x y, d = .tup [.str x, y] ∧ PyData.strOk x = true) (hl : l.length ≤ 100) (ρ : VS.Env) (h11 : ρ.length = 11) (S : Sto) :
    lcL (gT (gsCons (gN 9) (gsCons (gN 10) gsNil))) (rB (rBin eqD (rVar 9) (rC (.str w)))) (rVar 10) ρ l [] S = .ok ((l.filter (wordP w)).map partP) S := by
  have := lcL_pure (g := gT (gsCons (gN 9) (gsCons (gN 10) gsNil))) (t := rB (rBin eqD (rVar 9) (rC (.str w)))) (e := rVar 10) (ρ := ρ) (S := S) partP (wordP w) l [] (fun d hd => by
    obtain ⟨x, y, rfl, hx⟩ := hf d hd
    have s9 : ((ρ.set 9 (.val (.str x))).set 10 (.val y))[9]? = some (.val (.str x)) := by
      rw [List.getElem?_set_ne (by decide), List.getElem?_set_self (by omega)]
    have s10 : ((ρ.set 9 (.val (.str x))).set 10 (.val y))[10]? = some (.val y) := by
      rw [List.getElem?_set_self (by simp; omega)]
    refine ⟨(ρ.set 9 (.val (.str x))).set 10 (.val y), by simp [gT, gsCons, gsNil, gN, h11], ?_, fun _ => ?_⟩
    · simp only [rB, rBin, rVar, s9, rC, Res.bind_ok, eqD_str x w hx hw, optR_some, asB, wordP]
    · simp only [rVar, s10, partP]) (by have : (100 : Nat) ≤ lim := by decide
                                        simp
                                        omega)
  simpa using this
theorem flt_map {α : Type} (f : α → D) (p : D → Bool) (b : Bool) : ∀ l : List α, (∀ x ∈ l, p (f x) = b) → (l.map f).filter p = if b = true then l.map f else []
  | [], _ => by cases b <;> rfl
  | x :: l, h => by
    have ih := flt_map f p b l fun y hy => h y (by simp [hy])
    rw [List.map_cons, List.filter_cons, h x (by simp), ih]
    cases b <;> rfl
theorem w_ne : (("kinds" : Str) == "guest") = false ∧ (("look" : Str) == "guest") = false ∧ (("stand" : Str) == "guest") = false ∧ (("guest" : Str) == "guest") = true ∧ (("kinds" : Str) == "stand") = false ∧ (("look" : Str) == "stand") = false ∧ (("stand" : Str) == "stand") = true ∧ (("guest" : Str) == "stand") = false := by decide +kernel
theorem flt_guest (k : Nat) (gs : List Guest) (l : Look) (ls : List (List Nat)) : ((piecesD k gs l ls).filter (wordP "guest")).map partP = gs.map guestD := by
  obtain ⟨h1, h2, h3, h4, -⟩ := w_ne
  unfold piecesD
  rw [List.filter_cons, List.filter_append, List.filter_cons, flt_map _ _ true gs (fun g _ => by simp only [wordP, h4]), flt_map _ _ false ls (fun s _ => by simp only [wordP, h3])]
  simp [wordP, h1, h2, partP]
theorem flt_stand (k : Nat) (gs : List Guest) (l : Look) (ls : List (List Nat)) : ((piecesD k gs l ls).filter (wordP "stand")).map partP = ls.map stD := by
  obtain ⟨-, -, -, -, h1, h2, h3, h4⟩ := w_ne
  unfold piecesD
  rw [List.filter_cons, List.filter_append, List.filter_cons, flt_map _ _ false gs (fun g _ => by simp only [wordP, h4]), flt_map _ _ true ls (fun s _ => by simp only [wordP, h3])]
  simp [wordP, h1, h2, partP]
theorem rep_one (x : D) (n : Nat) (hn : n ≤ 100) : repD (.lst [x]) (.int (n : Int)) = some (List.replicate n x) := by
  show (if _ then _ else _) = _
  rw [if_pos ⟨by omega, by omega, by rw [le_lim]; simp; omega⟩]
  simp
theorem ix_nat (l : List D) (n : Nat) (h : n < l.length) : ixD (.lst l) (.int (n : Int)) = l[n]? := by
  have h2 : (0 : Int) ≤ (n : Int) := by omega
  simp [ixD, L2.atI, L2.ixN, h]
def wordD : D → D
  | .tup [x, _] => x
  | _ => .non
theorem map_const_rep {α β : Type} (f : α → β) : ∀ (l : List α) (y : β), (∀ x ∈ l, f x = y) → l.map f = List.replicate l.length y
  | [], _, _ => rfl
  | x :: l, y, h => by rw [List.map_cons, h x (by simp), map_const_rep f l y fun z hz => h z (by simp [hz])]; rfl
theorem comp_fst {l : List D} (hf : ∀ d ∈ l, ∃ x y, d = .tup [.str x, y] ∧ PyData.strOk x = true) (hl : l.length ≤ 100) (ρ : VS.Env) (h11 : ρ.length = 11) (S : Sto) :
    lcL (gT (gsCons (gN 9) (gsCons (gN 10) gsNil))) rYes (rVar 9) ρ l [] S = .ok (l.map wordD) S := by
  have := lcL_all (g := gT (gsCons (gN 9) (gsCons (gN 10) gsNil))) (e := rVar 9) (ρ := ρ) (S := S) (mk := fun d : D => d) (f := wordD) (rs := l) (fun d hd => ?_) hl
  · simpa using this
  obtain ⟨x, y, rfl, hx⟩ := hf d hd
  have s9 : ((ρ.set 9 (.val (.str x))).set 10 (.val y))[9]? = some (.val (.str x)) := by
    rw [List.getElem?_set_ne (by decide), List.getElem?_set_self (by omega)]
  exact ⟨(ρ.set 9 (.val (.str x))).set 10 (.val y), by simp [gT, gsCons, gsNil, gN, h11], by simp only [rVar, s9, wordD]⟩
theorem neD_refl {d : D} (h : shp d = true) : neD d d = some (.bl false) := by
  have : okD d = true := by
    unfold shp at h
    simp only [Bool.and_eq_true] at h
    exact h.1
  simp [neD, h, eqB_refl d this]
structure CookI (val : D) (ps : List D) (S : Sto) (l' : List D) (ρ : VS.Env) (S' : Sto) : Prop where
  ex : S' = S ∧ ∃ (done rest : List D) (ts : List Str) (n : Nat) (a2 a3 a4 : Sl), ps = done ++ rest ∧ l' = enumF n (ts.map .str) ∧ Paired Reads ts rest ∧ ρ = [.val val, .ol done, a2, a3, a4, .un, .un, .un, .un, .un, .un]
theorem enumF_cons (n : Nat) (d : D) (l : List D) : enumF n (d :: l) = .tup [.int (n : Int), d] :: enumF (n + 1) l := rfl
theorem e_cook_in {k : Nat} {gs : List Guest} {ls : List (List Nat)} (h : RowOk k gs) (hg : gd 9 9 (rowD k gs) = true) (hl : LotT gs ls) (l : Look) (S : Sto) : C_cook_in [.str (textF k gs l ls)] S = .ok (.tup [rowD k gs, .str (lookS l), .tup (ls.map stD)]) S := by
  refine ok_of ?_
  obtain ⟨hl1, hl2, hl3⟩ := lines_len (l := l) h hl
  have e1 := splitD_join "\n" (linesF k gs l ls) (b := 100) 10 (by decide +kernel) (by decide) (by simp [linesF]) (fun x hx => (lines_ok h hl.st x hx).1) (fun x hx => (lines_ok h hl.st x hx).2) (by decide) (by omega)
  have hpl : (piecesD k gs l ls).length ≤ 20 := by
    simp [piecesD]
    omega
  rw [v_cook_in]
  unfold q9_cook_in
  simp [isT, optR, asB]
  unfold q8_cook_in
  simp
  unfold q7_cook_in textF
  simp [e1, optR, enumD, -List.map_map]
  refine okFl_for (CookI (.str (Txt.join "\n" (linesF k gs l ls))) (piecesD k gs l ls) S) ?_ ?_ ⟨rfl, [], piecesD k gs l ls, linesF k gs l ls, 0, _, _, _, rfl, rfl, reads_all h hl.st, rfl⟩
  · rintro d l' ρ S' ⟨rfl, done, rest, ts, n, a2, a3, a4, f1, f2, f3, rfl⟩
    cases f3 with
    | nil => simp [enumF] at f2
    | @cons t p ts rest r f3 =>
      rw [List.map_cons, enumF_cons] at f2
      simp at f2
      obtain ⟨rfl, rfl⟩ := f2
      refine ⟨_, rfl, ?_⟩
      obtain ⟨r1, r2⟩ := r S'
      have hp : isND p .non = some (.bl false) := by
        cases p <;> first | rfl | exact absurd rfl r2
      have hd : done.length < 1000000 := by
        have : (piecesD k gs l ls).length = done.length + (rest.length + 1) := by rw [f1]; simp
        omega
      unfold q1_cook_in
      simp [gT, gsCons, gsNil, gN, r1]
      unfold q0_cook_in
      simp [hp, optR, asB, hd]
      exact ⟨rfl, done ++ [p], rest, ts, n + 1, _, _, _, by rw [f1]; simp, rfl, f3, rfl⟩
  · rintro ρ S' ⟨rfl, done, rest, ts, n, a2, a3, a4, f1, f2, f3, rfl⟩
    cases f3 with
    | @cons t p ts rest r f3 =>
      rw [List.map_cons, enumF_cons] at f2
      cases f2
    | nil =>
      simp at f1
      subst f1
      have hf := pieces_form (k := k) (gs := gs) (l := l) (ls := ls)
      have c1 := fun ρ h11 => comp_word w_ok.2.1 hf (by omega) ρ h11 S'
      have c2 := fun ρ h11 => comp_word w_ok.2.2.2 hf (by omega) ρ h11 S'
      simp only [flt_guest, flt_stand] at c1 c2
      unfold q6_cook_in
      simp [fzAt, itemsD, optR, wipeE, c1, tupD]
      unfold q5_cook_in
      simp [itemsD, optR, wipeE, c2, tupD]
      unfold q4_cook_in
      have r1 := rep_one (.str "guest") gs.length (by omega)
      have r2 := rep_one (.str "stand") ls.length (by omega)
      have a1 : VS.catL (.lst [.str "kinds"]) (.lst (List.replicate gs.length (.str "guest"))) = some (D.str "kinds" :: List.replicate gs.length (D.str "guest")) := by
        show (if _ then _ else _) = _
        rw [if_pos (by rw [le_lim]; simp; omega)]
        rfl
      have a2 : VS.catL (.lst (D.str "kinds" :: List.replicate gs.length (D.str "guest"))) (.lst [.str "look"]) = some ((D.str "kinds" :: List.replicate gs.length (D.str "guest")) ++ [.str "look"]) := by
        show (if _ then _ else _) = _
        rw [if_pos (by rw [le_lim]; simp; omega)]
      have a3 : addQ (.lst ((D.str "kinds" :: List.replicate gs.length (D.str "guest")) ++ [.str "look"])) (.lst (List.replicate ls.length (.str "stand"))) = some (.lst ((D.str "kinds" :: List.replicate gs.length (D.str "guest")) ++ [.str "look"] ++ List.replicate ls.length (.str "stand"))) := by
        show (if _ then _ else _) = _
        rw [if_pos (by rw [le_lim]; simp; omega)]
      have wl : (piecesD k gs l ls).map wordD = (D.str "kinds" :: List.replicate gs.length (D.str "guest")) ++ [.str "look"] ++ List.replicate ls.length (.str "stand") := by
        simp [piecesD, wordD]
        rw [map_const_rep (wordD ∘ fun g => D.tup [D.str (Str.ofString "guest"), guestD g]) gs (.str "guest") fun _ _ => rfl, map_const_rep (wordD ∘ fun s => D.tup [D.str (Str.ofString "stand"), stD s]) ls (.str "stand") fun _ _ => rfl]
      have wl2 : shp (.lst ((D.str "kinds" :: List.replicate gs.length (D.str "guest")) ++ [.str "look"] ++ List.replicate ls.length (.str "stand"))) = true := by
        refine gd_shp (m := 30) (n := 3) ?_ (by decide)
        refine (gdT (by simp; omega) fun d hd => ?_).2
        have w1 : gd 30 2 (.str "kinds") = true ∧ gd 30 2 (.str "guest") = true ∧ gd 30 2 (.str "look") = true ∧ gd 30 2 (.str "stand") = true := by decide +kernel
        simp at hd
        rcases hd with rfl | ⟨-, rfl⟩ | rfl | ⟨-, rfl⟩
        · exact w1.1
        · exact w1.2.1
        · exact w1.2.2.1
        · exact w1.2.2.2
      rw [← wl] at a3 wl2
      generalize hA : List.replicate gs.length (D.str "guest") = A at r1 a1 a2 a3
      generalize hB : ((D.str "kinds" :: A) ++ [D.str "look"]) = B at a2 a3
      have c3 := fun ρ h11 => comp_fst (l := piecesD k gs l ls) hf (by omega) ρ h11 S'
      have x1 : ixD (.lst (piecesD k gs l ls)) (.int 0) = some (.tup [.str "kinds", .int (k : Int)]) := by
        have := ix_nat (piecesD k gs l ls) 0 (by simp [piecesD])
        rw [show ((0 : Nat) : Int) = 0 from rfl] at this
        rw [this]
        rfl
      have x2 : ixD (.lst (piecesD k gs l ls)) (.int (1 + (gs.length : Int))) = some (.tup [.str "look", .str (lookS l)]) := by
        have := ix_nat (piecesD k gs l ls) (1 + gs.length) (by simp [piecesD]; omega)
        rw [show ((1 + gs.length : Nat) : Int) = 1 + (gs.length : Int) by omega] at this
        rw [this]
        unfold piecesD
        rw [show 1 + gs.length = gs.length + 1 by omega, List.getElem?_cons_succ, List.getElem?_append_right (by simp)]
        simp
      have x3 := e_is_row_value (rowD k gs) S' hg (by decide)
      rw [row_back h] at x3
      have x4 := e_is_lot_value (d := rowD k gs) (.tup (ls.map stD)) S' (row_back h) (gd_lot h hl) (by decide)
      rw [lotB_lot h (row_back h) hl] at x4
      simp [lenD, optR, r1, r2, a1, a2, a3]
      unfold q3_cook_in
      simp [x1, optR, tupD]
      unfold q2_cook_in
      have y0 : ixD (.tup [.str "kinds", .int (k : Int)]) (.int 1) = some (.int (k : Int)) := rfl
      have y1 : ixD (.tup [.str "look", .str (lookS l)]) (.int 1) = some (.str (lookS l)) := rfl
      unfold rowD at x3 x4 ⊢
      simp [y0, y1, itemsD, wipeE, lenD, addD, iBin, x2, x3, x4, c3, neD_refl wl2, optR, asB, -List.map_map]
end Gk09

set_option maxHeartbeats 4000000
namespace Gk09
open PySem PySem.Spec PyProof.Rows L2 VS
theorem mem_cut {l : List D} {lo hi : Option Int} {x : D} (h : x ∈ VS.cut l lo hi) : x ∈ l := List.mem_of_mem_drop (List.mem_of_mem_take h)
theorem neD_rowp : neD (.str "row +") (.str "row +") = some (.bl false) := by kernel_rfl
theorem neD_lookp : neD (.str "look +") (.str "look +") = some (.bl false) := by kernel_rfl
theorem neD_lotp : neD (.str "lot +") (.str "lot +") = some (.bl false) := by kernel_rfl
theorem kt_row : kt "InvalidRow" = some ("row +" : Str) := by kernel_rfl
theorem kt_look : kt "InvalidLook" = some ("look +" : Str) := by kernel_rfl
theorem kt_lot : kt "InvalidLot" = some ("lot +" : Str) := by kernel_rfl
theorem sok_join {s : Str} {xs : List Str} (hs : PyData.strOk s = true) (h : ∀ x ∈ xs, PyData.strOk x = true) : PyData.strOk (Txt.join s xs) = true := by
  have key : ∀ {x : Str}, PyData.strOk x = true ↔ ∀ c ∈ x.cps.toList, c < 0x110000 := fun {x} => by
    unfold PyData.strOk
    rw [← Array.all_toList]
    simp only [List.all_eq_true, decide_eq_true_eq]
  rw [key]
  intro c hc
  rcases mem_join s c xs hc with hc | ⟨x, hx, hc⟩
  · exact key.mp hs c hc
  · exact key.mp (h x hx) c hc
theorem sok_sep : PyData.strOk ("," : Str) = true ∧ PyData.strOk (" " : Str) = true ∧ PyData.strOk ("\n" : Str) = true ∧ PyData.strOk ("guest" : Str) = true := by decide +kernel
theorem sok_hab : ∀ b : Bool, ∀ n ∈ [0, 1, 2], PyData.strOk (habS (b, n)) = true := by decide +kernel
theorem sok_guest {k : Nat} {g : Guest} (h : GuestOk k g) (k1 : 1 ≤ k) (k3 : k ≤ 3) : PyData.strOk (guestS g) = true := by
  unfold guestS
  refine sok_join sok_sep.2.1 fun x hx => ?_
  rcases List.mem_cons.mp hx with rfl | hx
  · exact sok_sep.2.2.2
  · obtain ⟨m, hm, rfl⟩ := List.mem_map.mp hx
    unfold moodS
    refine sok_join sok_sep.1 fun x hx => ?_
    obtain ⟨y, hy, rfl⟩ := List.mem_map.mp hx
    exact sok_hab y.1 y.2 (lt3 ((h.mood k1 k3 hm).lt y hy))
theorem sok_lines {gs : List Guest} {k : Nat} {l : Look} {ls : List (List Nat)} (h : RowOk k gs) (hl : ∀ s ∈ ls, stOk gs s) : ∀ x ∈ linesF k gs l ls, PyData.strOk x = true := by
  intro x hx
  have hk1 := h.k1
  have hk3 := h.k3
  have kk : ∀ n ∈ [0, 1, 2, 3], PyData.strOk (kindsS n) = true := by decide +kernel
  have kl : ∀ l : Look, PyData.strOk (lookT l) = true := fun l => by cases l <;> decide +kernel
  have k1 : ∀ a ∈ [0, 1, 2], PyData.strOk (standS [a]) = true := by decide +kernel
  have k2 : ∀ a ∈ [0, 1, 2], ∀ b ∈ [0, 1, 2], PyData.strOk (standS [a, b]) = true := by decide +kernel
  unfold linesF at hx
  rcases List.mem_cons.mp hx with rfl | hx
  · exact kk k (lt4 (by omega))
  · rcases List.mem_append.mp hx with hx | hx
    · obtain ⟨g, hg, rfl⟩ := List.mem_map.mp hx
      exact sok_guest (h.ok g hg) hk1 hk3
    · rcases List.mem_cons.mp hx with rfl | hx
      · exact kl l
      · obtain ⟨s, hs, rfl⟩ := List.mem_map.mp hx
        rcases stand_ok h (hl s hs) with ⟨a, rfl, ha⟩ | ⟨a, b, rfl, ha, hb⟩
        · exact k1 a (lt3 ha)
        · exact k2 a (lt3 ha) b (lt3 hb)
theorem len_text {gs : List Guest} {k : Nat} {l : Look} {ls : List (List Nat)} (h : RowOk k gs) (hl : LotT gs ls) : (textF k gs l ls).length ≤ 1000 := by
  obtain ⟨h1, h2, h3⟩ := lines_len (l := l) h hl
  have hk1 := h.k1
  have hk3 := h.k3
  have e : (("\n" : Str)).length = 1 := by decide +kernel
  have a0 := len_join "\n" (linesF k gs l ls)
  have kk : ∀ n ∈ [0, 1, 2, 3], (kindsS n).length ≤ 100 := by decide +kernel
  have a1 := kk k (lt4 (by omega))
  have a2 : (lookT l).length ≤ 100 := by cases l <;> decide +kernel
  have a3 := sum_le (xs := gs.map guestS) (b := 100) fun x hx => by
    obtain ⟨g, hg, rfl⟩ := List.mem_map.mp hx
    exact (guest_ok (h.ok g hg) hk1 hk3).2
  have a4 := sum_le (xs := ls.map standS) (b := 20) fun x hx => by
    obtain ⟨s, hs, rfl⟩ := List.mem_map.mp hx
    exact (standS_ok h (hl.st s hs)).2
  have a5 : ((linesF k gs l ls).map (·.length)).sum = (kindsS k).length + (((gs.map guestS).map (·.length)).sum + ((lookT l).length + ((ls.map standS).map (·.length)).sum)) := by
    unfold linesF
    rw [List.map_cons, List.sum_cons, List.map_append, List.sum_append, List.map_cons, List.sum_cons]
  rw [a5, e] at a0
  rw [List.length_map] at a3 a4
  unfold textF
  omega
theorem gd_text {gs : List Guest} {k : Nat} {l : Look} {ls : List (List Nat)} (h : RowOk k gs) (hl : LotT gs ls) : gd 9 9 (.str (textF k gs l ls)) = true := by
  have h1 : PyData.strOk (textF k gs l ls) = true := sok_join sok_sep.2.2.1 (sok_lines h hl.st)
  have h2 := len_text (l := l) h hl
  simp [gd, h1, h2]
theorem twice_no {E zs : List (List Int)} (k : EOK E) (hne : zs ≠ []) (hz : ∀ z ∈ zs, z ∈ E) : lotB E (.tup ((zs ++ zs).map tupI)) = false := by
  have hz2 : ∀ z ∈ zs ++ zs, z ∈ E := fun z h => by
    rcases List.mem_append.mp h with h | h <;> exact hz z h
  rw [lotB_map (by simp; exact hz)]
  have : ¬ (zs ++ zs = sortU (zs ++ zs)) := fun e => by
    have p := (k.srt hz2).mpr e
    obtain ⟨z, hz⟩ := List.exists_mem_of_ne_nil _ hne
    have := (List.pairwise_append.mp p).2.2 z hz z hz
    unfold codeLt at this
    omega
  simp [this]
abbrev Ln (c0 a1 a2 a3 a4 a5 a6 a7 : Sl) : VS.Env := [c0, a1, a2, a3, a4, a5, a6, a7, .un, .un, .un, .un, .un]
section
variable {k : Nat} {gs : List Guest} {ls : List (List Nat)} (h : RowOk k gs) (hr : rowB (rowD k gs) = true) (hg : gd 9 9 (rowD k gs) = true) (hl : LotT gs ls)
include h hr hg hl
theorem l_q0 (l : Look) (c0 a1 a2 a4 : Sl) (S : Sto) : q0_law (Ln c0 a1 a2 (.val (.str (lookS l))) a4 (.val (rowD k gs)) (.val (.tup (ls.map stD))) (.val (.str (textF k gs l ls)))) S = .nx (Ln c0 a1 a2 (.val (.str (lookS l))) a4 (.val (rowD k gs)) (.val (.tup (ls.map stD))) (.val (.str (textF k gs l ls)))) S := by
  have e1 := e_cook_text h hg hl l S
  have e2 := same_refl (m := 9) (by decide) 9 12 (.str (textF k gs l ls)) S (gd_text h hl) (by decide)
  have e3 : C_read_cook [.str (textF k gs l ls)] S = .ok (.tup [rowD k gs, .str (lookS l), .tup (ls.map stD)]) S := by
    rw [v_read_cook]
    simp [e_cook_in h hg hl l S]
  have g1 : gd 9 10 (.tup [rowD k gs, .str (lookS l), .tup (ls.map stD)]) = true := (gdT (by simp) fun d hd => by
    simp at hd
    rcases hd with rfl | rfl | rfl
    · exact hg
    · exact gd_look l
    · exact gd_lot h hl).1
  have g2 : gd 9 11 (.tup [.str "told", .tup [rowD k gs, .str (lookS l), .tup (ls.map stD)]]) = true := (gdT (by simp) fun d hd => by
    simp at hd
    rcases hd with rfl | rfl
    · decide +kernel
    · exact g1).1
  have e4 := same_refl (m := 9) (by decide) 11 12 _ S g2 (by decide)
  unfold q0_law Ln
  simp [e1, e2, e3, e4, asB, optR]
theorem l_look {odd : D} (ho : gd 9 9 odd = true) (hk : lookB odd = false) (c0 a1 a2 a3 a7 : Sl) (S : Sto) : q4_law (Ln c0 a1 a2 a3 (.val odd) (.val (rowD k gs)) (.val (.tup (ls.map stD))) a7) S = .nx (Ln c0 a1 a2 a3 (.val odd) (.val (rowD k gs)) (.val (.tup (ls.map stD))) a7) S := by
  have e1 := e_need_cook (m := 9) (n := 9) (rowD k gs) odd .non S hg ho (by simp [gd]) (by decide)
  rw [hr, hk] at e1
  have e2 : C_cook_text [rowD k gs, odd, .non] S = .exc ⟨"InvalidLook", none⟩ S := by
    rw [v_cook_text]
    unfold q0_cook_text
    simp at e1
    simp [e1]
  unfold q4_law
  simp [e2, kt_look, neD_lookp, asB, optR]
theorem l_lot {odd : D} (ho : gd 20 9 odd = true) (hk : lotB (evD (rowD k gs)) odd = false) (c0 a1 a2 a3 a7 : Sl) (S : Sto) : q5_law (Ln c0 a1 a2 a3 (.val odd) (.val (rowD k gs)) (.val (.tup (ls.map stD))) a7) S = .nx (Ln c0 a1 a2 a3 (.val odd) (.val (rowD k gs)) (.val (.tup (ls.map stD))) a7) S := by
  have e1 := e_need_cook (m := 20) (n := 9) (rowD k gs) (.str (lookS .who)) odd S (gd_mono (by decide) (by decide) hg) (gd_mono (by decide) (by decide) (gd_look .who)) ho (by decide)
  rw [hr, hk, lookB_look] at e1
  have e2 : C_cook_text [rowD k gs, .str "who", odd] S = .exc ⟨"InvalidLot", none⟩ S := by
    rw [v_cook_text]
    unfold q0_cook_text
    simp [lookS] at e1
    simp [e1]
  unfold q5_law
  simp [e2, kt_lot, neD_lotp, asB, optR]
theorem l_q7 (c0 a1 a2 a3 a4 a7 : Sl) (S : Sto) : okFl (q7_law (Ln c0 a1 a2 a3 a4 (.val (rowD k gs)) (.val (.tup (ls.map stD))) a7) S) (fun ρ S' => ∃ a4, ρ = Ln c0 a1 a2 a3 a4 (.val (rowD k gs)) (.val (.tup (ls.map stD))) a7) fun _ _ => False := by
  have e5 : listD [rowD k gs] = some [.int (k : Int), .tup (gs.map guestD)] := rfl
  have gl : gd 9 9 (.lst [.int (k : Int), .tup (gs.map guestD)]) = true := by
    have hg' := hg
    unfold rowD at hg'
    obtain ⟨j, e, h1, h2⟩ := gd_tup hg'
    cases e
    exact (gdT h1 h2).2
  have e1 := e_need_cook (m := 9) (n := 9) (.lst [.int (k : Int), .tup (gs.map guestD)]) .non .non S gl (by simp [gd]) (by simp [gd]) (by decide)
  have e2 : C_cook_text [.lst [.int (k : Int), .tup (gs.map guestD)], .non, .non] S = .exc ⟨"InvalidRow", none⟩ S := by
    rw [v_cook_text]
    unfold q0_cook_text
    simp [rowB] at e1
    simp [e1]
  unfold q7_law Ln
  simp [e5, optR, e2, kt_row, neD_rowp, asB, -List.map_map]
  unfold q6_law
  simp [itemsD, optR]
  refine okFl_forM (fun ρ S' => ∃ a4, ρ = Ln c0 a1 a2 a3 a4 (.val (rowD k gs)) (.val (.tup (ls.map stD))) a7) ?_ ?_ ⟨_, rfl⟩
  · rintro d hd ρ S' ⟨b4, rfl⟩
    refine ⟨_, rfl, ?_⟩
    have ho : gd 9 9 d = true ∧ lookB d = false := by
      simp at hd
      rcases hd with rfl | rfl | rfl <;> decide +kernel
    have := l_look h hr hg hl ho.1 ho.2 c0 a1 a2 a3 a7 S'
    exact nx_fl this ⟨_, rfl⟩
  · rintro ρ S' ⟨b4, rfl⟩
    have hll := (hl.len h).2
    have e6 : listD [.tup (ls.map stD)] = some (ls.map stD) := rfl
    have e7 : mulQ (.tup (ls.map stD)) (.int 2) = some (.tup ((ls.map stZ ++ ls.map stZ).map tupI)) := by
      show (if _ then _ else _) = _
      rw [if_pos ⟨by simp; exact hl.ne, by omega, by omega, by simp; omega⟩]
      simp [List.replicate]
      rw [show (stD : List Nat → D) = tupI ∘ stZ from funext stD_tupI]
    simp [itemsD, optR, e6, e7, -List.map_append]
    refine okFl_forM (fun ρ S' => ∃ a4, ρ = Ln c0 a1 a2 a3 a4 (.val (rowD k gs)) (.val (.tup (ls.map stD))) a7) ?_ (fun _ _ x => x) ⟨_, rfl⟩
    rintro d hd ρ S2 ⟨b4, rfl⟩
    refine ⟨_, rfl, ?_⟩
    have gt := gd_mono (m' := 20) (n' := 9) (by decide) (by decide) (gd_lot h hl)
    have ho : gd 20 9 d = true ∧ lotB (evD (rowD k gs)) d = false := by
      simp [-List.map_append] at hd
      rcases hd with rfl | rfl | rfl | rfl
      · exact ⟨by simp [gd], rfl⟩
      · exact ⟨by simp [gd], by simp [lotB, tupsOf, lotZ]⟩
      · refine ⟨?_, rfl⟩
        obtain ⟨j, e, h1, h2⟩ := gd_tup gt
        cases e
        exact (gdT h1 h2).2
      · refine ⟨?_, ?_⟩
        · obtain ⟨j, e, h1, h2⟩ := gd_tup gt
          cases e
          refine (gdT (by simp; omega) fun d hd => ?_).1
          simp only [List.map_append, List.map_map] at hd
          have hd : d ∈ ls.map stD := by
            rcases List.mem_append.mp hd with hd | hd <;> (obtain ⟨s, hs, rfl⟩ := List.mem_map.mp hd; exact List.mem_map.mpr ⟨s, hs, stD_tupI s⟩)
          exact h2 d hd
        · refine twice_no (eok hr) (by simp; exact hl.ne) fun z hz => ?_
          rw [ev_typed h]
          exact (hl.sub.map stZ).subset hz
    have := l_lot h hr hg hl ho.1 ho.2 c0 a1 a2 a3 a7 S2
    exact nx_fl this ⟨_, rfl⟩
end
theorem e_tail (c0 a1 a2 a3 a4 a5 a6 a7 : Sl) : q11_law (Ln c0 a1 a2 a3 a4 a5 a6 a7) = fun S => .rt (.bl true) S := by
  funext S
  kernel_rfl
structure LawI (ns : List Int) (c : Int) (n : Nat) (l' : List D) (ρ : VS.Env) : Prop where
  ex : (∃ a3 a4 a5 a6 a7, ρ = Ln (.val (.lst (ns.map .int))) (.val (.int c)) (.val (.obj n)) a3 a4 a5 a6 a7 ∧ l' ≠ []) ∨ ∃ (k : Nat) (gs : List Guest) (ls : List (List Nat)) (a3 a4 a7 : Sl), RowOk k gs ∧ rowB (rowD k gs) = true ∧ gd 9 9 (rowD k gs) = true ∧ LotT gs ls ∧ ρ = Ln (.val (.lst (ns.map .int))) (.val (.int c)) (.val (.obj n)) a3 a4 (.val (rowD k gs)) (.val (.tup (ls.map stD))) a7
theorem l_law {ns : List Int} {c : Int} (S : Sto) (a2 a3 a4 a5 a6 a7 : Sl) : okFl (q9_law (Ln (.val (.lst (ns.map .int))) (.val (.int c)) a2 a3 a4 a5 a6 a7) S) (fun ρ S' => ∃ a1 a2 a3 a4 a5 a6 a7, ρ = Ln (.val (.lst (ns.map .int))) a1 a2 a3 a4 a5 a6 a7) fun _ _ => False := by
  unfold q9_law Ln
  simp
  refine okR_mono (e_deck c 9 S (by decide) (by decide)) ?_
  rintro _ S1 ⟨rfl, hlen, ok, fr⟩
  unfold q8_law
  simp [itemsD, optR]
  refine okFl_for (fun l' ρ S' => (∀ d ∈ l', ∃ l : Look, d = .str (lookS l)) ∧ DeckOk S' S.length (100 + 1000 * l'.length) ∧ LawI ns c S.length l' ρ) ?_ ?_ ⟨?_, ok.le (by decide), ⟨.inl ⟨_, _, _, _, _, rfl, by simp⟩⟩⟩
  · rintro d l' ρ S2 ⟨hd, dk, ⟨hh⟩⟩
    obtain ⟨l, rfl⟩ := hd d (by simp)
    have hρ : ∃ b3 b4 b5 b6 b7, ρ = Ln (.val (.lst (ns.map .int))) (.val (.int c)) (.val (.obj S.length)) b3 b4 b5 b6 b7 := by
      rcases hh with ⟨b3, b4, b5, b6, b7, rfl, -⟩ | ⟨k, gs, ls, b3, b4, b7, -, -, -, -, rfl⟩ <;> exact ⟨_, _, _, _, _, rfl⟩
    obtain ⟨b3, b4, b5, b6, b7, rfl⟩ := hρ
    refine ⟨_, rfl, ?_⟩
    unfold q3_law
    simp
    refine okR_mono (e_a_row (m := 100 + 1000 * l'.length + 500) (dk.le (by simp; omega))) ?_
    rintro row S3 ⟨p3, hrow, grow⟩
    obtain ⟨k, gs, rfl, h⟩ := row_typed hrow
    have hg : gd 9 9 (rowD k gs) = true := gd_mono (by decide) (by decide) grow
    unfold q2_law
    simp
    refine okR_mono (e_a_lot (m := 100 + 1000 * l'.length) hrow (p3.ok.le (by omega))) ?_
    rintro lot S4 ⟨p4, hlot⟩
    obtain ⟨ls, rfl, hl⟩ := lot_typed h hlot
    unfold q1_law
    simp [e_law_writing h hl l S4]
    have := l_q0 h hrow hg hl l (.val (.lst (ns.map .int))) (.val (.int c)) (.val (.obj S.length)) b4 S4
    refine nx_fl this ⟨fun d hd' => hd d (by simp [hd']), p4.ok, ⟨.inr ⟨k, gs, ls, _, _, _, h, hrow, hg, hl, rfl⟩⟩⟩
  · rintro ρ S2 ⟨hd, dk, ⟨hh⟩⟩
    rcases hh with ⟨b3, b4, b5, b6, b7, -, z⟩ | ⟨k, gs, ls, b3, b4, b7, h, hrow, hg, hl, rfl⟩
    · exact absurd rfl z
    · refine okFl_mono (l_q7 h hrow hg hl ..) ?_ (fun _ _ h => h)
      rintro ρ S3 ⟨b5, rfl⟩
      exact ⟨_, _, _, _, _, _, _, rfl⟩
  · intro d hd
    simp at hd
    rcases hd with rfl | rfl | rfl
    · exact ⟨.who, rfl⟩
    · exact ⟨.left, rfl⟩
    · exact ⟨.non, rfl⟩
theorem law_pure (ns : List Int) (hl : ns.length ≤ 63) (hb : ∀ z ∈ ns, Builtin.Int.intBits z ≤ 1048576) : ∃ S', C_law [.lst (ns.map .int)] [] = .ok (.bl true) S' := by
  suffices h : okR (C_law [.lst (ns.map .int)] []) fun d _ => d = .bl true by
    obtain ⟨d, S', e, rfl⟩ := okR_iff.mp h
    exact ⟨S', e⟩
  rw [v_law]
  unfold q12_law
  have hcat : 1 + ns.length ≤ 1000000 := by omega
  simp [VS.catL, hcat, optR, sliceQ, itemsD, asI]
  refine okFl_forM (fun ρ S' => ∃ a1 a2 a3 a4 a5 a6 a7, ρ = Ln (.val (.lst (ns.map .int))) a1 a2 a3 a4 a5 a6 a7) ?_ ?_ ⟨_, _, _, _, _, _, _, rfl⟩
  · rintro d hd ρ S ⟨a1, a2, a3, a4, a5, a6, a7, rfl⟩
    obtain ⟨c, rfl⟩ : ∃ c, d = .int c := by
      have := mem_cut hd
      simp at this
      rcases this with rfl | ⟨c, _, rfl⟩
      · exact ⟨0, rfl⟩
      · exact ⟨c, rfl⟩
    exact ⟨_, rfl, okFl_mono (l_law ..) (fun _ _ h => h) (fun _ _ h => h.elim)⟩
  · rintro ρ S ⟨a1, a2, a3, a4, a5, a6, a7, rfl⟩
    rw [e_tail]
    simp
end Gk09

set_option maxHeartbeats 0
namespace Gk09
open PySem PySem.Spec PyProof.Rows L2 VS

def mkD (p : Str × Stmt) : He.DefD := ⟨(p.1, none), p.1, p.1, defArgs p.2, defBody p.2, defScope p.2, [], []⟩
def fnD : List He.DefD := fnT.map mkD
def kinC : List Str := ["InvalidRow", "InvalidLook", "InvalidLot"]
def fa : List He.Fa := [.int "MOST_MOODS" 3, .int "MOST_GUESTS" 2, .glo "LOOKS", .glo "WORDS", .glo "MOODS"] ++ (fnT.map (fun p => .glo p.1) ++ (frL.map .free ++ (exL.map .exc ++ (exL.map .glo ++ (kinL.map .glo ++ [.glo "MoodError"])))))
def tf : List He.Defn := lamL.map fun x => (x, none)
theorem nodup_inj {α β : Type} {f : α → β} : ∀ {l : List α}, (l.map f).Nodup → ∀ x ∈ l, ∀ y ∈ l, f x = f y → x = y
  | [], _, x, hx, _, _, _ => absurd hx (by simp)
  | a :: l, h, x, hx, y, hy, e => by
    rw [List.map_cons, List.nodup_cons] at h
    rcases List.mem_cons.mp hx with hx | hx
    · rcases List.mem_cons.mp hy with hy | hy
      · rw [hx, hy]
      · exact absurd (List.mem_map.mpr ⟨y, hy, by rw [← e, hx]⟩) h.1
    · rcases List.mem_cons.mp hy with hy | hy
      · exact absurd (List.mem_map.mpr ⟨x, hx, by rw [e, hy]⟩) h.1
      · exact nodup_inj h.2 x hx y hy e
def lamB (K : PySem.W.Frag) : Bool := decide (lamL.map fun x => (He.cT K (x, none)).2).Nodup
def bs (c : Str) : Nat → Bool := fun j => j == 14 || kinL[j]? == some c
def ecB (K : PySem.W.Frag) (D0 : Addr) : Bool :=
  decide (PySem.W.findIn K (.ref D0) "__getattribute__" = some (some (.builtin "BaseException.__getattribute__"))) && (decide (PySem.W.findIn K (.ref D0) "__getattr__" = some none) && (decide (PySem.W.subIn K (.ref D0) (.type "BaseException") = some true) && (PySem.W.hasDictIn K D0 &&
  (decide (PySem.W.findIn K (.ref D0) "__class__" = some (some (.builtin "object.__class__"))) && (decide (PySem.W.specialIn K (.builtin "object.__class__") "__get__" = some (some (.builtin "getset_descriptor.__get__"))) && (decide (PySem.W.takesIn K (.builtin "object.__class__") = some true) && decide (PySem.W.mroIn K D0 (.type "object") = some true)))))))
theorem ecB_ok {K : PySem.W.Frag} {D0 : Addr} (h : ecB K D0 = true) : ExcC K D0 := by
  unfold ecB at h
  simp only [Bool.and_eq_true, decide_eq_true_eq] at h
  exact ⟨h.1, h.2.1, h.2.2.1, h.2.2.2.1, h.2.2.2.2.1, h.2.2.2.2.2.1, h.2.2.2.2.2.2.1, h.2.2.2.2.2.2.2⟩
def kinB (K : PySem.W.Frag) (c : Str) : Bool := ecB K (He.ga K c) && ((List.range 14).all (fun j => decide (PySem.W.kitOne K (.ref (He.ga K c)) (.ref (He.ga K (kinL.getD j ""))) = some (bs c j))) && (decide (PySem.W.kitOne K (.ref (He.ga K c)) (.type "ValueError") = some true) &&
  (decide (PySem.W.exmOne K (.ref (He.ga K c)) (.ref (He.ga K "InvalidText")) = some false) && (decide (PySem.W.exmOne K (.ref (He.ga K c)) (.ref (He.ga K "TooMany")) = some false) && decide (PySem.W.exmOne K (.ref (He.ga K c)) (.ref (He.ga K "MoodError")) = some true)))))
def exB (K : PySem.W.Frag) : Bool := lamB K && kinC.all (kinB K) && VS.tupSB K "LOOKS" ["who", "left", "none"] && VS.tupSB K "WORDS" ["pass", "take"] && VS.tupSB K "MOODS" ["0", "1", "2"]
theorem exB_k {K : PySem.W.Frag} (h : exB K = true) : kinC.all (kinB K) = true := by
  unfold exB at h
  simp only [Bool.and_eq_true] at h
  exact h.1.1.1.2
theorem exB_l {K : PySem.W.Frag} (h : exB K = true) : lamB K = true := by
  unfold exB at h
  simp only [Bool.and_eq_true] at h
  exact h.1.1.1.1
theorem exB_t0 {K : PySem.W.Frag} (h : exB K = true) : VS.tupSB K "LOOKS" ["who", "left", "none"] = true := by
  unfold exB at h
  simp only [Bool.and_eq_true] at h
  exact h.1.1.2
theorem exB_t1 {K : PySem.W.Frag} (h : exB K = true) : VS.tupSB K "WORDS" ["pass", "take"] = true := by
  unfold exB at h
  simp only [Bool.and_eq_true] at h
  exact h.1.2
theorem exB_t2 {K : PySem.W.Frag} (h : exB K = true) : VS.tupSB K "MOODS" ["0", "1", "2"] = true := by
  unfold exB at h
  simp only [Bool.and_eq_true] at h
  exact h.2
abbrev R : PySem.W.OpenRow := PySem.W.OpenLaw.row PySem.Challenge.rw_moodsuntold_k09_texts_of_cooks
abbrev hk : PySem.W.Hook := He.hookX 5 fa fnD [] tf exB
def ob (s : PySem.W.SharedT) : He.AlX := He.obsX 5 fa fnD [] tf exB (HandSHeadRun.getT s)
theorem ob_eq (s : PySem.W.SharedT) : ob s = hk.obs s.abs := He.obsX_eq (HandSHeadRun.getT_eq s)
def nm0 : List Str := ["MoodError", "InvalidRow", "InvalidLook", "InvalidLot", "InvalidGoal", "InvalidStand", "InvalidKind", "InvalidPlan", "InvalidSeen", "InvalidIndex", "Impossible", "Unlike", "NothingToUndo", "TooMany", "InvalidText", "MOST_MOODS", "MOST_GUESTS", "LOOKS", "is_within", "has_items", "is_habit", "is_mood", "is_guest_value", "is_row_value", "is_look_value", "is_stand_value", "is_lot_value", "need_row", "need_look", "need_lot"]
def nm1 : List Str := ["need_cook", "WORDS", "MOODS", "mood_word", "lines_of", "habit_in", "guest_in", "piece_of", "cook_in", "cook_text", "read_cook", "_law_deck", "_law_pick", "_law_one", "_law_sort", "_law_same", "_law_kin", "_law_try", "_law_a_guest", "_law_a_row", "_law_every", "_law_a_lot", "_law_known", "_law_writing"]
def names : List Str := nm0 ++ nm1
theorem run (w : World) : HandSHeadRun.RunEq R (PySem.W.view R.prog [58]) hk ob 6000 names w := by
  intro os
  kernel_rfl
theorem top_of {K : PySem.W.Frag} {h : Heap} {mg : Str → Option Value} {w : World} (KX : K.In h) (G : h.Ns mainGlobals mg) (c : He.SaysX fa fnD [] tf exB w h K) : Top K mg where
  fn := fun i p hp => by
    have hd : fnD[i]? = some (mkD p) := by unfold fnD; rw [List.getElem?_map, hp]; rfl
    obtain ⟨fd, F⟩ := c.t.d.def_ i hd
    refine ⟨_, fd, He5.fun_of F, He.glo_ok KX G (c.t.d.facts (f := .glo p.1) ?_)⟩
    exact List.mem_append_right _ (List.mem_append_left _ (List.mem_map.mpr ⟨p, List.mem_of_getElem? hp, rfl⟩))
  fr := fun i x hx => He.free_ok KX G (c.t.d.facts (f := .free x) (List.mem_append_right _ (List.mem_append_right _ (List.mem_append_left _ (List.mem_map.mpr ⟨x, List.mem_of_getElem? hx, rfl⟩)))))
  exc := fun i x hx => by
    have h1 := He.exc_ok (c.t.d.facts (f := .exc x) (List.mem_append_right _ (List.mem_append_right _ (List.mem_append_right _ (List.mem_append_left _ (List.mem_map.mpr ⟨x, List.mem_of_getElem? hx, rfl⟩))))))
    have h2 := He.glo_ok KX G (c.t.d.facts (f := .glo x) (List.mem_append_right _ (List.mem_append_right _ (List.mem_append_right _ (List.mem_append_right _ (List.mem_append_left _ (List.mem_map.mpr ⟨x, List.mem_of_getElem? hx, rfl⟩)))))))
    exact ⟨_, h2, h1.1, h1.2.1, h1.2.2.1, h1.2.2.2⟩
  c_MOST_MOODS := by
    obtain ⟨t, ht⟩ := He.int_ok KX G (x := "MOST_MOODS") (c.t.d.facts (f := .int "MOST_MOODS" 3) (by unfold fa; simp))
    exact ⟨.int 3, .int 3 t, ht, ⟨t, rfl⟩, fun _ _ _ => .int _⟩
  c_MOST_GUESTS := by
    obtain ⟨t, ht⟩ := He.int_ok KX G (x := "MOST_GUESTS") (c.t.d.facts (f := .int "MOST_GUESTS" 2) (by unfold fa; simp))
    exact ⟨.int 2, .int 2 t, ht, ⟨t, rfl⟩, fun _ _ _ => .int _⟩
  c_LOOKS := VS.tupS_ok (ss := ["who", "left", "none"]) (He.glo_ok KX G (x := "LOOKS") (c.t.d.facts (f := .glo "LOOKS") (by unfold fa; simp))) (exB_t0 c.more)
  c_WORDS := VS.tupS_ok (ss := ["pass", "take"]) (He.glo_ok KX G (x := "WORDS") (c.t.d.facts (f := .glo "WORDS") (by unfold fa; simp))) (exB_t1 c.more)
  c_MOODS := VS.tupS_ok (ss := ["0", "1", "2"]) (He.glo_ok KX G (x := "MOODS") (c.t.d.facts (f := .glo "MOODS") (by unfold fa; simp))) (exB_t2 c.more)
theorem kglo {K : PySem.W.Frag} {h : Heap} {mg : Str → Option Value} {w : World} (KX : K.In h) (G : h.Ns mainGlobals mg) (c : He.SaysX fa fnD [] tf exB w h K) {x : Str} (hx : x ∈ kinL ∨ x = "MoodError") : mg x = some (.ref (He.ga K x)) := by
  refine He.glo_ok KX G (c.t.d.facts (f := .glo x) (List.mem_append_right _ (List.mem_append_right _ (List.mem_append_right _ (List.mem_append_right _ (List.mem_append_right _ ?_))))))
  rcases hx with hx | hx
  · exact List.mem_append_left _ (List.mem_map.mpr ⟨x, hx, rfl⟩)
  · subst hx; exact List.mem_append_right _ List.mem_cons_self
theorem rKin_ev {i : Nat} {a : Addr} {b : Bool} {ρ : VS.Env} {S : Sto} (h : ρ[i]? = some (.val (.adr a))) : rKin i a b ρ S = .ok (.bl b) S := by
  unfold rKin; rw [h]; simp
theorem kin_s1 (a : Addr) (x y z : Bool) (S : Sto) : rSetF 1 (rFz (chkLen (rCons (rKin 0 a x) (rCons (rKin 0 a y) (rCons (rKin 0 a z) rNil))))) [.val (.adr a), .un, .un, .un, .un] S = .nx [.val (.adr a), .val (.lst [.bl x, .bl y, .bl z]), .un, .un, .un] S := by
  simp [rSetF, rFz, chkLen, rCons, rNil, rKin_ev, Res.thenS, setE, lim]
theorem kin_s2 (a : Addr) (x y z : Bool) (l : List D) (hl : l.length ≤ 100) (S : Sto) : rSetF 1 (rBin addQ (rVar 1) (rUp (chkLen (rCons (rKin 0 a x) (rCons (rKin 0 a y) (rCons (rKin 0 a z) rNil)))))) [.val (.adr a), .val (.lst l), .un, .un, .un] S = .nx [.val (.adr a), .val (.lst (l ++ [.bl x, .bl y, .bl z])), .un, .un, .un] S := by
  have h : l.length + 3 ≤ 1000000 := by omega
  simp [rSetF, rUp, rBin, rVar, chkLen, rCons, rNil, rKin_ev, Res.thenS, setE, lim, addQ, h]
theorem kin_ev_InvalidRow (a : Addr) (S : Sto) : resOf (r__law_kin a (bs "InvalidRow") (env0 (N__law_kin).length [.adr a]) S) = .ok (.str "row +") S := by
  have e : env0 (N__law_kin).length [.adr a] = [.val (.adr a), .un, .un, .un, .un] := rfl
  rw [e]
  unfold r__law_kin
  simp only [rSeq, kin_s1]
  rw [kin_s2 _ _ _ _ _ (by simp)]
  simp only
  rw [kin_s2 _ _ _ _ _ (by simp)]
  simp only
  rw [kin_s2 _ _ _ _ _ (by simp)]
  simp only
  rw [kin_s2 _ _ _ _ _ (by simp)]
  kernel_rfl
theorem kin_ev_InvalidLook (a : Addr) (S : Sto) : resOf (r__law_kin a (bs "InvalidLook") (env0 (N__law_kin).length [.adr a]) S) = .ok (.str "look +") S := by
  have e : env0 (N__law_kin).length [.adr a] = [.val (.adr a), .un, .un, .un, .un] := rfl
  rw [e]
  unfold r__law_kin
  simp only [rSeq, kin_s1]
  rw [kin_s2 _ _ _ _ _ (by simp)]
  simp only
  rw [kin_s2 _ _ _ _ _ (by simp)]
  simp only
  rw [kin_s2 _ _ _ _ _ (by simp)]
  simp only
  rw [kin_s2 _ _ _ _ _ (by simp)]
  kernel_rfl
theorem kin_ev_InvalidLot (a : Addr) (S : Sto) : resOf (r__law_kin a (bs "InvalidLot") (env0 (N__law_kin).length [.adr a]) S) = .ok (.str "lot +") S := by
  have e : env0 (N__law_kin).length [.adr a] = [.val (.adr a), .un, .un, .un, .un] := rfl
  rw [e]
  unfold r__law_kin
  simp only [rSeq, kin_s1]
  rw [kin_s2 _ _ _ _ _ (by simp)]
  simp only
  rw [kin_s2 _ _ _ _ _ (by simp)]
  simp only
  rw [kin_s2 _ _ _ _ _ (by simp)]
  simp only
  rw [kin_s2 _ _ _ _ _ (by simp)]
  kernel_rfl
theorem kin_all {c0 txt : Str} (hk : kt c0 = some txt) (p : Addr × Obj) : c0 ∈ kinC ∧ ∀ S, resOf (r__law_kin p.1 (bs c0) (env0 (N__law_kin).length [.adr p.1]) S) = .ok (.str txt) S := by
  by_cases h : c0 = "InvalidRow"
  · subst h
    have e : kt "InvalidRow" = some "row +" := by decide +kernel
    rw [e] at hk
    cases hk
    exact ⟨by simp [kinC], fun S => kin_ev_InvalidRow p.1 S⟩
  by_cases h : c0 = "InvalidLook"
  · subst h
    have e : kt "InvalidLook" = some "look +" := by decide +kernel
    rw [e] at hk
    cases hk
    exact ⟨by simp [kinC], fun S => kin_ev_InvalidLook p.1 S⟩
  by_cases h : c0 = "InvalidLot"
  · subst h
    have e : kt "InvalidLot" = some "lot +" := by decide +kernel
    rw [e] at hk
    cases hk
    exact ⟨by simp [kinC], fun S => kin_ev_InvalidLot p.1 S⟩
  · simp_all [kt]
theorem kinC_sub : ∀ c ∈ kinC, c ∈ kinL := by decide +kernel
theorem kinW_of {P : Program} {w : World} {K : PySem.W.Frag} {h base : Heap} {mg : Str → Option Value} {T : List (Addr × Str)} (KX : K.In h) (G : h.Ns mainGlobals mg) (c : He.SaysX fa fnD [] tf exB w h K) : KinW P w K mg base T kt 1 (He.ga K "InvalidText") (He.ga K "TooMany") (He.ga K "MoodError") := by
  have mem : ∀ c0 ∈ kinC, kinB K c0 = true := fun c0 hc => List.all_eq_true.mp (exB_k c.more) c0 hc
  have gl : ∀ {c0 : Str} {D0 : Addr}, c0 ∈ kinC → mg c0 = some (.ref D0) → D0 = He.ga K c0 := fun {c0 D0} hc h => by
    have := kglo KX G c (x := c0) (.inl (kinC_sub c0 hc))
    rw [this] at h
    cases h
    rfl
  have parts : ∀ {c0 : Str}, c0 ∈ kinC → _ := fun {c0} hc => by
    have := mem c0 hc
    unfold kinB at this
    simp only [Bool.and_eq_true, decide_eq_true_eq] at this
    exact this
  refine ⟨kglo KX G c (.inl (by decide +kernel)), kglo KX G c (.inl (by decide +kernel)), kglo KX G c (.inr rfl), fun c0 txt D0 hk hm p hz hf => ?_, fun c0 txt D0 hk hm => ?_⟩
  · obtain ⟨hc, hev⟩ := kin_all hk p
    have e := gl hc hm
    subst e
    have pp := parts hc
    refine d__law_kin (top_of KX G c) (ecB_ok pp.1) hz hf (bs c0) (fun j x hx => ?_) pp.2.2.1 txt hev
    refine ⟨He.ga K x, kglo KX G c (.inl (List.mem_of_getElem? hx)), ?_⟩
    have hj : j < 14 := (List.getElem?_eq_some_iff.mp hx).1
    have z := List.all_eq_true.mp pp.2.1 j (List.mem_range.mpr hj)
    have ex : kinL.getD j "" = x := by
      rw [List.getD_eq_getElem?_getD, hx]
      rfl
    rw [ex] at z
    exact of_decide_eq_true z
  · obtain ⟨hc, _⟩ := kin_all hk (D0, ⟨.none, none, .plain, #[]⟩)
    have e := gl hc hm
    subst e
    have pp := parts hc
    exact ⟨pp.2.2.2.1, pp.2.2.2.2.1, pp.2.2.2.2.2⟩
end Gk09


set_option maxHeartbeats 0

namespace Gk09
open PySem PySem.Spec PyProof.Rows L2 VS
theorem reps_ints {Z : Wd} {β : List Addr} {H : Hp} : ∀ ns : List Int, Reps Z β H (ns.map V.int) (ns.map .int)
  | [] => .nil
  | n :: ns => .cons (.int n) (reps_ints ns)
theorem lam_fn : ∀ x ∈ lamL, x ∈ fnT.map (·.1) := by decide +kernel
theorem law_at {w : World} {mg : Str → Option Value} {f : Addr} {h : Heap} (Y : hk.says w h) (G : h.Ns mainGlobals mg) (hm : mg ("law" : Str) = some (.ref f)) : ∃ K : PySem.W.Frag, K.In h ∧ LawAtL PySem.Challenge.rw_moodsuntold_k09_texts_of_cooks w K (L2N.CX (PySem.Challenge.rw_moodsuntold_k09_texts_of_cooks).prog w) 17 63 "script" mg f h := by
  obtain ⟨K, KX, c⟩ := Y
  have tp := top_of KX G c
  have kw : ∀ base T, KinW (PySem.Challenge.rw_moodsuntold_k09_texts_of_cooks).prog w K mg base T kt 1 (He.ga K "InvalidText") (He.ga K "TooMany") (He.ga K "MoodError") := fun base T => kinW_of KX G c
  obtain ⟨fd, F⟩ := c.t.d.def_ 34 (d := mkD ("law", topS 58)) rfl
  have gf : mg ("law" : Str) = some (.ref (He.ga K "law")) := He.glo_ok KX G (c.t.d.facts (f := .glo "law") (List.mem_append_right _ (List.mem_append_left _ (List.mem_map.mpr ⟨("law", topS 58), List.mem_of_getElem? (i := 34) rfl, rfl⟩))))
  have ef : f = He.ga K "law" := by
    rw [gf] at hm
    cases hm
    rfl
  subst ef
  have GF : Fun K "law" "law" (topS 58) (He.ga K "law") fd := He5.fun_of F
  have hcode : ∀ {x : Str} {st : Stmt} {fd : FuncData}, Fun K x x st (He.ga K x) fd → VS.codeAt K (He.ga K x) = .ref (He.cT K (x, none)).1 := fun {x st fd} GF => by
    obtain ⟨oc, od, kV, doc, pm, an, cdv, ct, osl, efd, lk, hcd⟩ := GF.ex
    obtain ⟨cc, ecc⟩ := He.codeIn_ref hcd
    have e2 : He.codeOf K (x, none) = cc := He.codeOf_eq (p := (x, none)) lk (by rw [efd]; exact ecc)
    show VS.codeAt K (He.ga K x) = .ref (He.codeOf K (x, none))
    rw [e2]
    unfold VS.codeAt
    rw [lk]
    show fd.code = _
    rw [efd]
    exact ecc
  let cs : List (Addr × Addr) := lamL.map fun x => He.cT K (x, none)
  let T : List (Addr × Str) := lamL.map fun x => ((He.cT K (x, none)).2, ((x : Str) ++ ".<locals>.") ++ "<lambda>")
  have one : ∀ p ∈ cs, ∃ x ∈ lamL, p = He.cT K (x, none) := fun p hp => by
    obtain ⟨x, hx, e⟩ := List.mem_map.mp hp
    exact ⟨x, hx, e.symm⟩
  have mt : ∀ {x : Str}, x ∈ lamL → (x, (none : Option Str)) ∈ tf := fun {x} hx => List.mem_map.mpr ⟨x, hx, rfl⟩
  have lams : ∀ base : Heap, (∀ p ∈ cs, LamX.TabB base mg p.1 p.2) → ∀ (i : Nat) {x : Str}, lamL[i]? = some x → LamT K mg base T x := fun base hTB i x hx => by
    have hxl := List.mem_of_getElem? hx
    have hfx : x ∈ fnT.map (·.1) := lam_fn x hxl
    obtain ⟨q, hq, rfl⟩ := List.mem_map.mp hfx
    obtain ⟨n, hn⟩ := List.getElem?_of_mem hq
    have hd : fnD[n]? = some (mkD q) := by unfold fnD; rw [List.getElem?_map, hn]; rfl
    obtain ⟨fdx, Fx⟩ := c.t.d.def_ n hd
    have gx : mg q.1 = some (.ref (He.ga K q.1)) := He.glo_ok KX G (c.t.d.facts (f := .glo q.1) (List.mem_append_right _ (List.mem_append_left _ (List.mem_map.mpr ⟨q, hq, rfl⟩))))
    refine ⟨fun f' hf' => ?_⟩
    rw [gx] at hf'
    cases hf'
    refine ⟨_, (He.cT K (q.1, none)).2, hcode (He5.fun_of Fx), hTB _ (List.mem_map.mpr ⟨q.1, hxl, rfl⟩), List.mem_map.mpr ⟨q.1, hxl, rfl⟩, fun p hp hp1 => ?_⟩
    obtain ⟨y, hy, rfl⟩ := List.mem_map.mp hp
    have nd : (lamL.map fun x => (He.cT K (x, none)).2).Nodup := of_decide_eq_true (exB_l c.more)
    rw [nodup_inj nd y hy q.1 hxl hp1]
  refine ⟨K, KX, fd, cs, spF ⟨K, mg, T⟩ 1 C_law, fun p hp => ?_, fun p hp => ?_, fun p hp => ?_,
    fun s u => FunD.bindsA (ps := ["script"]) F (fun _ _ _ _ _ _ us hl => match us, hl with | [_], _ => rfl) s [u] rfl, fun H a ns hl hbits hT hS => ?_, fun base hK hN hTB => ?_⟩
  · obtain ⟨x, hx, rfl⟩ := one p hp
    exact c.empty _ (mt hx)
  · obtain ⟨x, hx, rfl⟩ := one p hp
    exact c.out _ (mt hx)
  · obtain ⟨x, hx, rfl⟩ := one p hp
    exact PySem.W.codeHd_of_K KX (c.hd _ (mt hx))
  · refine ⟨rfl, [], [], [.lst (ns.map .int)], ⟨rfl, List.nodup_nil, fun n so hn => by simp at hn⟩, fun p hp => ?_, .cons (.lst hS (reps_ints ns)) .nil, ?_⟩
    · obtain ⟨x, hx, rfl⟩ := List.mem_map.mp hp
      exact LamX.TabS.nil (hT _ (List.mem_map.mpr ⟨x, hx, rfl⟩))
    · obtain ⟨S', e⟩ := law_pure ns hl hbits
      rw [e]
      intro v H' β' h1 h2 h3 h4
      cases h4
      rfl
  · exact d_law tp ⟨kw base T, lams base hTB⟩ GF gf
end Gk09
open PySem PySem.W PySem.Calls PyProof.Rows
theorem PySem.Challenge.cw_moodsuntold_k09_texts_of_cooks_holds : PySem.Challenge.rw_moodsuntold_k09_texts_of_cooks.Holds := by
  w_on; o_law
  refine HandSHeadRun.head_any (r := OpenLaw.row PySem.Challenge.rw_moodsuntold_k09_texts_of_cooks) (q := view (OpenLaw.row PySem.Challenge.rw_moodsuntold_k09_texts_of_cooks).prog [58]) (H := Gk09.hk) (ob := Gk09.ob) (M := 6000) (loose := Gk09.names) (d := HandSHeadRun.topDef (OpenLaw.row PySem.Challenge.rw_moodsuntold_k09_texts_of_cooks).prog 58) (kwd := []) Gk09.ob_eq
    (by kernel_rfl) (fun s => by kernel_rfl) Gk09.run (by kernel_rfl) (by kernel_rfl) (by kernel_rfl) (by rfl) (by first | assumption | decide +kernel) (by decide +kernel) ⟨rfl, rfl, rfl, rfl, rfl, by decide +kernel⟩ ?hw ?hc
  case hw => w_witness2
  case hc =>
    refine VS.walk_ofTL (l := PySem.Challenge.rw_moodsuntold_k09_texts_of_cooks) (n := 63) (k := 17) (x := "script") (CX := fun w => L2N.CX (PySem.Challenge.rw_moodsuntold_k09_texts_of_cooks).prog w) rfl (by decide) (by kernel_rfl) ⟨rfl, by decide, by decide⟩ ?F (fun w H s e s' h => ?_)
    · intro w mg fa h Y G hmg0
      have hmg : mg ("law" : PySem.Str) = some (.ref fa) := by
        have e : (HandSHeadRun.topDef (OpenLaw.row PySem.Challenge.rw_moodsuntold_k09_texts_of_cooks).prog 58).name = ("law" : PySem.Str) := by kernel_rfl
        rw [← e]
        exact hmg0
      exact Gk09.law_at Y G hmg
    · obtain ⟨_, _, _, _, _, _, _, _, _, _, _, _, z⟩ := h
      exact z


