import PyProof.Rows.All
import Wide.All
import OpenK.AllK
import Wide.FinOn
import HandS.ForMost
import HandS.Exc
import HandS.ExcOwn
import HandS.WordsExc
import HandS.Flow
import HandS.FStr
import HandS.SortInts
import HandS.TupAny
import HandS.IsInst
import HandS.TupMul
import HandS.RaiseMore
import HandS.More
import PyProof.ReprRoads
import HandS.Ends
import PySem.Challenge.RW_maskedlist_k70_formulas_as_text
set_option Elab.async false
set_option linter.all false
set_option maxRecDepth 100000
section
open PySem PySem.W PyProof.Rows
set_option maxHeartbeats 0
open_top head for PySem.Challenge.rw_maskedlist_k70_formulas_as_text
end
set_option maxHeartbeats 4000000
/-! MK, part 1: plain data, stores, how they lie in the abstract heap; results; the readings IE, IA, IT, IS of functions on plain data. -/
namespace MK
open PySem L2

/-- a text, by its code points -/
abbrev Tx := List Nat
def sT (x : Tx) : Str := ⟨x.toArray⟩
theorem sT_inj {x y : Tx} (h : sT x = sT y) : x = y := by
  have := congrArg (fun z : Str => z.cps.toList) h
  simpa [sT] using this
theorem sT_cps (x : Tx) : (sT x).cps.toList = x := by simp [sT]
theorem sT_of (z : Str) : sT z.cps.toList = z := by cases z; simp [sT]
@[simp] theorem sT_length (x : Tx) : (sT x).length = x.length := by simp [sT, Str.length]
abbrev Ky := Sum Int Tx
def kS : Ky → Key
  | .inl i => .inl i
  | .inr x => .inr (sT x)
theorem kS_inj {x y : Ky} (h : kS x = kS y) : x = y := by
  cases x <;> cases y <;> simp [kS] at h
  · rw [h]
  · rw [sT_inj h]
/-- plain data: trees, without addresses -/
inductive Dv where
  | non | bl (b : Bool) | int (i : Int) | str (x : Tx)
  | tup (ds : List Dv) | lst (ds : List Dv)
  | dK (kvs : List (Ky × Dv)) | dT (kvs : List (List Ky × Dv))
  | ins (c : Str) (fs : List (Str × Dv))
/-- a value: plain data, or a place in the store -/
inductive Mv where
  | val (d : Dv) | loc (n : Nat)
/-- what stands at a place of the store: it may be changed -/
inductive Ob where
  | lst (ms : List Mv) | dK (kvs : List (Ky × Mv)) | dT (kvs : List (List Ky × Mv)) | ins (c : Str) (fs : List (Str × Mv)) | dead
abbrev Sto := List Ob
structure Exn where
  c : Str
  fs : List (Str × Dv)
inductive Rz (α : Type) where
  | ok (a : α) (S : Sto) | exn (e : Exn) (S : Sto) | stuck
def Rz.bind {α β : Type} (x : Rz α) (f : α → Sto → Rz β) : Rz β := match x with
  | .ok a S => f a S
  | .exn e S => .exn e S
  | .stuck => .stuck
@[simp] theorem Rz.bind_ok {α β : Type} (a : α) (S : Sto) (f : α → Sto → Rz β) : (Rz.ok a S).bind f = f a S := rfl
@[simp] theorem Rz.bind_exn {α β : Type} (e : Exn) (S : Sto) (f : α → Sto → Rz β) : (Rz.exn e S : Rz α).bind f = .exn e S := rfl
@[simp] theorem Rz.bind_stuck {α β : Type} (f : α → Sto → Rz β) : (Rz.stuck : Rz α).bind f = .stuck := rfl

section
variable (K : PySem.W.Frag) (mg : Str → Option Value)
mutual
inductive VR : Hp → Dv → V → Prop
  | non {F} : VR F .non .non
  | bl {F b} : VR F (.bl b) (.bl b)
  | int {F i} : VR F (.int i) (.int i)
  | str {F x} : VR F (.str x) (.str (sT x))
  | tup {F ds a ws} : SqT K F a ws → VRs F ds ws → VR F (.tup ds) (.ref a)
  | lst {F ds a ws} : SqL K F a ws → VRs F ds ws → VR F (.lst ds) (.ref a)
  | dK {F kvs a kws} : Rd F a (.dK kws) → VRp F kS kvs kws → VR F (.dK kvs) (.ref a)
  | dT {F kvs a kws} : Rd F a (.dT kws) → VRp F (List.map kS) kvs kws → VR F (.dT kvs) (.ref a)
  | ins {F c fs a C dx ws} : F a = some (.ins C dx ws) → mg c = some (.ref C) → VRp F id fs ws → VR F (.ins c fs) (.ref a)
inductive VRs : Hp → List Dv → List V → Prop
  | nil {F} : VRs F [] []
  | cons {F d ds v vs} : VR F d v → VRs F ds vs → VRs F (d :: ds) (v :: vs)
inductive VRp : Hp → {κ κ' : Type} → (κ → κ') → List (κ × Dv) → List (κ' × V) → Prop
  | nil {F} {κ κ' : Type} {j : κ → κ'} : VRp F j [] []
  | cons {F} {κ κ' : Type} {j : κ → κ'} {k d ds v vs} : VR F d v → VRp F j ds vs → VRp F j ((k, d) :: ds) ((j k, v) :: vs)
end
end

/-- what may be read in F may be read in F' -/
def Sub (F F' : Hp) : Prop := ∀ a o, F a = some o → F' a = some o
theorem Sub.refl (F : Hp) : Sub F F := fun _ _ h => h
theorem Sub.trans {A B C : Hp} (x : Sub A B) (y : Sub B C) : Sub A C := fun a o h => y a o (x a o h)
theorem Sub.rd {F F' : Hp} (x : Sub F F') {a : Addr} {u : HO} (h : Rd F a u) : Rd F' a u := by
  rcases h with h | ⟨o, h⟩
  · exact .inl (x _ _ h)
  · exact .inr ⟨o, x _ _ h⟩
theorem Sub.sqL {F F' : Hp} {K : PySem.W.Frag} (x : Sub F F') {a : Addr} {ws : List V} (h : SqL K F a ws) : SqL K F' a ws := by
  rcases h with h | h
  · exact .inl (x.rd h)
  · exact .inr h
theorem Sub.sqT {F F' : Hp} {K : PySem.W.Frag} (x : Sub F F') {a : Addr} {ws : List V} (h : SqT K F a ws) : SqT K F' a ws := by
  rcases h with h | h
  · exact .inl (x.rd h)
  · exact .inr h
section
variable {K : PySem.W.Frag} {mg : Str → Option Value}
mutual
theorem VR.mono {F F' : Hp} (x : Sub F F') : ∀ {d : Dv} {v : V}, VR K mg F d v → VR K mg F' d v
  | _, _, .non => .non
  | _, _, .bl => .bl
  | _, _, .int => .int
  | _, _, .str => .str
  | _, _, .tup h t => .tup (x.sqT h) (VRs.mono x t)
  | _, _, .lst h t => .lst (x.sqL h) (VRs.mono x t)
  | _, _, .dK h t => .dK (x.rd h) (VRp.mono x t)
  | _, _, .dT h t => .dT (x.rd h) (VRp.mono x t)
  | _, _, .ins h m t => .ins (x _ _ h) m (VRp.mono x t)
theorem VRs.mono {F F' : Hp} (x : Sub F F') : ∀ {d : List Dv} {v : List V}, VRs K mg F d v → VRs K mg F' d v
  | _, _, .nil => .nil
  | _, _, .cons h t => .cons (VR.mono x h) (VRs.mono x t)
theorem VRp.mono {F F' : Hp} (x : Sub F F') : ∀ {κ κ' : Type} {j : κ → κ'} {d : List (κ × Dv)} {v : List (κ' × V)}, VRp K mg F j d v → VRp K mg F' j d v
  | _, _, _, _, _, .nil => .nil
  | _, _, _, _, _, .cons h t => .cons (VR.mono x h) (VRp.mono x t)
end
theorem VRs.length {F : Hp} : ∀ {d : List Dv} {v : List V}, VRs K mg F d v → d.length = v.length
  | _, _, .nil => rfl
  | _, _, .cons _ t => congrArg (· + 1) (VRs.length t)
end

/-! ### states -/
structure S3 where
  i : Nat → Addr
  S : Sto
  H : Hp
def Own (a : S3) (b : Addr) : Prop := ∃ k ob, a.S[k]? = some ob ∧ ob ≠ .dead ∧ a.i k = b
open Classical in
noncomputable def hide (N : Addr → Prop) (H : Hp) : Hp := fun b => if N b then none else H b
theorem hide_some {N : Addr → Prop} {H : Hp} {b : Addr} {o : HO} : hide N H b = some o ↔ ¬ N b ∧ H b = some o := by
  unfold hide
  by_cases h : N b
  · rw [if_pos h]; simp [h]
  · rw [if_neg h]; simp [h]
theorem hide_sub {N : Addr → Prop} {H : Hp} : Sub (hide N H) H := fun _ _ h => (hide_some.mp h).2
noncomputable def Fz (N : Addr → Prop) (a : S3) : Hp := hide (fun b => N b ∨ Own a b) a.H
theorem Fz.sub {N : Addr → Prop} {a : S3} : Sub (Fz N a) a.H := hide_sub

section
variable (K : PySem.W.Frag) (mg : Str → Option Value) (N : Addr → Prop)
def MR (a : S3) : Mv → V → Prop
  | .val d, v => VR K mg (Fz N a) d v
  | .loc k, v => k < a.S.length ∧ v = .ref (a.i k)
def MRp {κ κ' : Type} (j : κ → κ') (a : S3) (x : κ × Mv) (y : κ' × V) : Prop := j x.1 = y.1 ∧ MR K mg N a x.2 y.2
def OR (a : S3) (b : Addr) : Ob → Prop
  | .lst ms => ∃ ws, a.H b = some (.lst ws) ∧ Paired (MR K mg N a) ms ws
  | .dK kvs => ∃ kws, a.H b = some (.dK kws) ∧ Paired (MRp K mg N kS a) kvs kws
  | .dT kvs => ∃ kws, a.H b = some (.dT kws) ∧ Paired (MRp K mg N (List.map kS) a) kvs kws
  | .ins c fs => ∃ C dx ws, a.H b = some (.ins C dx ws) ∧ mg c = some (.ref C) ∧ Paired (MRp K mg N id a) fs ws
  | .dead => True
structure SR (a : S3) : Prop where
  nm : ∀ b, N b → a.H b ≠ none
  nn : ∀ b, Own a b → ¬ N b
  inj : ∀ (j k : Nat) oj ok, a.S[j]? = some oj → a.S[k]? = some ok → oj ≠ .dead → ok ≠ .dead → a.i j = a.i k → j = k
  at_ : ∀ (k : Nat) ob, a.S[k]? = some ob → OR K mg N a (a.i k) ob
end
structure Ext (a b : S3) : Prop where
  ag : ∀ k, k < a.S.length → b.i k = a.i k
  ln : a.S.length ≤ b.S.length
  kp : ∀ x o, a.H x = some o → ¬ Own a x → b.H x = some o
  fr : ∀ x, Own b x → Own a x ∨ a.H x = none
theorem Ext.refl (a : S3) : Ext a a := ⟨fun _ _ => rfl, Nat.le_refl _, fun _ _ h _ => h, fun _ h => .inl h⟩
theorem Ext.trans {a b c : S3} (x : Ext a b) (y : Ext b c) : Ext a c where
  ag := fun k h => (y.ag k (Nat.lt_of_lt_of_le h x.ln)).trans (x.ag k h)
  ln := Nat.le_trans x.ln y.ln
  kp := fun z o h n => y.kp z o (x.kp z o h n) fun q => by
    rcases x.fr z q with q | q
    · exact n q
    · rw [h] at q; cases q
  fr := fun z h => by
    by_cases n : Own a z
    · exact .inl n
    · right
      cases e : a.H z with
      | none => rfl
      | some o =>
        have e' := x.kp z o e n
        rcases y.fr z h with q | q
        · rcases x.fr z q with q | q
          · exact (n q).elim
          · rw [e] at q; cases q
        · rw [e'] at q; cases q
section
variable {K : PySem.W.Frag} {mg : Str → Option Value} {N : Addr → Prop}
theorem Ext.fz {a b : S3} (x : Ext a b) : Sub (Fz N a) (Fz N b) := fun z o h => by
  obtain ⟨h1, h2⟩ := hide_some.mp h
  refine hide_some.mpr ⟨fun q => ?_, x.kp z o h2 fun q => h1 (.inr q)⟩
  rcases q with q | q
  · exact h1 (.inl q)
  · rcases x.fr z q with q | q
    · exact h1 (.inr q)
    · rw [h2] at q; cases q
theorem MR.ext {a b : S3} (x : Ext a b) : ∀ {m : Mv} {v : V}, MR K mg N a m v → MR K mg N b m v
  | .val _, _, h => VR.mono x.fz h
  | .loc k, _, ⟨h, e⟩ => ⟨Nat.lt_of_lt_of_le h x.ln, by rw [e, x.ag k h]⟩
theorem MRp.ext {κ κ' : Type} {j : κ → κ'} {a b : S3} (x : Ext a b) {m : κ × Mv} {v : κ' × V} (h : MRp K mg N j a m v) : MRp K mg N j b m v := ⟨h.1, h.2.ext x⟩
theorem MRs.ext {a b : S3} (x : Ext a b) {ms : List Mv} {vs : List V} (h : Paired (MR K mg N a) ms vs) : Paired (MR K mg N b) ms vs := Paired.mapP h fun _ _ q => q.ext x
theorem MRps.ext {κ κ' : Type} {j : κ → κ'} {a b : S3} (x : Ext a b) {ms : List (κ × Mv)} {vs : List (κ' × V)} (h : Paired (MRp K mg N j a) ms vs) : Paired (MRp K mg N j b) ms vs := Paired.mapP h fun _ _ q => q.ext x
theorem SR.lt {a : S3} {b : Addr} (r : SR K mg N a) (h : Own a b) : a.H b ≠ none := by
  obtain ⟨k, ob, e, nd, rfl⟩ := h
  have q := r.at_ k ob e
  cases ob with
  | lst ms => obtain ⟨_, h, _⟩ := q; rw [h]; simp
  | dK ms => obtain ⟨_, h, _⟩ := q; rw [h]; simp
  | dT ms => obtain ⟨_, h, _⟩ := q; rw [h]; simp
  | ins c fs => obtain ⟨_, _, _, h, _⟩ := q; rw [h]; simp
  | dead => exact (nd rfl).elim

/-- an exception, as it lies -/
def ExR (K : PySem.W.Frag) (mg : Str → Option Value) (F : Hp) (e : Exn) (cls : Value) (d : Option Addr) (H : Hp) : Prop :=
  ∃ C, mg e.c = some (.ref C) ∧ cls = .ref C ∧ ((e.fs = [] ∧ d = none) ∨ ∃ dd ws, d = some dd ∧ F dd = some (.xd ws) ∧ VRp K mg F id e.fs ws)

/-- what a result asks -/
def Post {α β : Type} (rel : S3 → α → β → Prop) (K : PySem.W.Frag) (mg : Str → Option Value) (N : Addr → Prop) (a : S3) (W : XK) (Q : β → Hp → Prop) : Rz α → Prop
  | .ok m S' => ∀ b v, b.S = S' → Ext a b → SR K mg N b → rel b m v → Q v b.H
  | .exn e S' => ∀ b cls d, b.S = S' → Ext a b → SR K mg N b → ExR K mg (Fz N b) e cls d b.H → W cls d b.H
  | .stuck => False
theorem Post.mono {α β : Type} {rel : S3 → α → β → Prop} {a : S3} {W : XK} {Q Q' : β → Hp → Prop} {r : Rz α} (h : Post rel K mg N a W Q r) (q : ∀ v H, Q v H → Q' v H) : Post rel K mg N a W Q' r := by
  cases r with
  | ok m S' => exact fun b v e x s m => q _ _ (h b v e x s m)
  | exn e S' => exact h
  | stuck => exact h
theorem Post.from_ {α β : Type} {rel : S3 → α → β → Prop} {a b : S3} {W : XK} {Q : β → Hp → Prop} {r : Rz α} (h : Post rel K mg N a W Q r) (x : Ext a b) : Post rel K mg N b W Q r := by
  cases r with
  | ok m S' => exact fun c v e y s m => h c v e (x.trans y) s m
  | exn e S' => exact fun c v d e y s m => h c v d e (x.trans y) s m
  | stuck => exact h
theorem Post.bind_out {α β γ δ : Type} {rel : S3 → α → β → Prop} {rel2 : S3 → γ → δ → Prop} {a : S3} {W : XK} {Q : δ → Hp → Prop} {x : Rz α} {f : α → Sto → Rz γ} (h : Post rel2 K mg N a W Q (x.bind f)) :
    Post rel K mg N a W (fun v H1 => ∃ b m, b.H = H1 ∧ Ext a b ∧ SR K mg N b ∧ rel b m v ∧ Post rel2 K mg N b W Q (f m b.S)) x := by
  cases x with
  | ok m S' => exact fun b v e y s r => ⟨b, m, rfl, y, s, r, by rw [e]; exact h.from_ y⟩
  | exn e S' => exact h
  | stuck => exact h

/-! ### slots -/
def EnvR (K : PySem.W.Frag) (mg : Str → Option Value) (N : Addr → Prop) (a : S3) (ρ : List (Option Mv)) (σ : St) : Prop :=
  ρ.length = σ.length ∧ ∀ (i : Nat) m, ρ[i]? = some (some m) → ∃ v, σ[i]? = some (some v) ∧ MR K mg N a m v
theorem EnvR.ext {a b : S3} {ρ : List (Option Mv)} {σ : St} (x : Ext a b) (h : EnvR K mg N a ρ σ) : EnvR K mg N b ρ σ :=
  ⟨h.1, fun i m e => let ⟨v, e', r⟩ := h.2 i m e; ⟨v, e', r.ext x⟩⟩
theorem EnvR.set {a : S3} {ρ : List (Option Mv)} {σ : St} {m : Mv} {v : V} (h : EnvR K mg N a ρ σ) (i : Nat) (r : MR K mg N a m v) : EnvR K mg N a (ρ.set i (some m)) (σ.set i (some v)) := by
  refine ⟨by simp [h.1], fun j m' e => ?_⟩
  by_cases hj : i = j
  · subst hj
    by_cases hl : i < ρ.length
    · rw [List.getElem?_set_self hl] at e
      cases e
      exact ⟨v, List.getElem?_set_self (h.1 ▸ hl), r⟩
    · rw [List.getElem?_eq_none (by simpa using hl)] at e; cases e
  · rw [List.getElem?_set_ne hj] at e ⊢
    exact h.2 j m' e
theorem EnvR.unset {a : S3} {ρ : List (Option Mv)} {σ : St} (h : EnvR K mg N a ρ σ) (i : Nat) : EnvR K mg N a (ρ.set i none) (σ.set i none) := by
  refine ⟨by simp [h.1], fun j m' e => ?_⟩
  by_cases hj : i = j
  · subst hj
    by_cases hl : i < ρ.length
    · rw [List.getElem?_set_self hl] at e
      cases e
    · rw [List.getElem?_eq_none (by simpa using hl)] at e; cases e
  · rw [List.getElem?_set_ne hj] at e ⊢
    exact h.2 j m' e

/-! ### the readings -/
abbrev XE := List (Option Mv) → Sto → Rz Mv
abbrev XA := List (Option Mv) → Sto → Rz (List Mv)
abbrev XT := List (Option Mv) → Sto → Rz Bool
def RelB (_ : S3) (a b : Bool) : Prop := a = b
def RelA (K : PySem.W.Frag) (mg : Str → Option Value) (N : Addr → Prop) (a : S3) : List Mv → List V → Prop := Paired (MR K mg N a)
def Rd3 (K : PySem.W.Frag) (mg : Str → Option Value) (N : Addr → Prop) (a : S3) (ρ : List (Option Mv)) (σ : St) (H : Hp) : Prop := a.H = H ∧ SR K mg N a ∧ EnvR K mg N a ρ σ
def IE (K : PySem.W.Frag) (mg : Str → Option Value) (W : WX) (f : XE) : TE := fun σ H Q => ∃ N a ρ, Rd3 K mg N a ρ σ H ∧ Post (MR K mg N) K mg N a (fun c d H' => W c d σ H') Q (f ρ a.S)
def IA (K : PySem.W.Frag) (mg : Str → Option Value) (W : WX) (f : XA) : TA := fun σ H Q => ∃ N a ρ, Rd3 K mg N a ρ σ H ∧ Post (RelA K mg N) K mg N a (fun c d H' => W c d σ H') Q (f ρ a.S)
def IT (K : PySem.W.Frag) (mg : Str → Option Value) (W : WX) (f : XT) : TT := fun σ H Q => ∃ N a ρ, Rd3 K mg N a ρ σ H ∧ Post RelB K mg N a (fun c d H' => W c d σ H') Q (f ρ a.S)

inductive RS where
  | nx (ρ : List (Option Mv)) (S : Sto) | brk (ρ : List (Option Mv)) (S : Sto) | cnt (ρ : List (Option Mv)) (S : Sto) | ret (m : Mv) (S : Sto) | exn (e : Exn) (ρ : List (Option Mv)) (S : Sto) | stuck
abbrev XS := List (Option Mv) → Sto → RS
def PostS (K : PySem.W.Frag) (mg : Str → Option Value) (N : Addr → Prop) (a : S3) (W : WX) (D : Ends) : RS → Prop
  | .nx ρ' S' => ∀ b σ', b.S = S' → Ext a b → SR K mg N b → EnvR K mg N b ρ' σ' → D.nx σ' b.H
  | .brk ρ' S' => ∀ b σ', b.S = S' → Ext a b → SR K mg N b → EnvR K mg N b ρ' σ' → D.bk σ' b.H
  | .cnt ρ' S' => ∀ b σ', b.S = S' → Ext a b → SR K mg N b → EnvR K mg N b ρ' σ' → D.ct σ' b.H
  | .ret m S' => ∀ b v, b.S = S' → Ext a b → SR K mg N b → MR K mg N b m v → D.rt v b.H
  | .exn e ρ' S' => ∀ b σ' cls d, b.S = S' → Ext a b → SR K mg N b → EnvR K mg N b ρ' σ' → ExR K mg (Fz N b) e cls d b.H → W cls d σ' b.H
  | .stuck => False
def IS (K : PySem.W.Frag) (mg : Str → Option Value) (W : WX) (g : XS) : TS := fun D σ H => ∃ N a ρ, Rd3 K mg N a ρ σ H ∧ PostS K mg N a W D (g ρ a.S)
theorem PostS.from_ {a b : S3} {W : WX} {D : Ends} {r : RS} (h : PostS K mg N a W D r) (x : Ext a b) : PostS K mg N b W D r := by
  cases r with
  | nx ρ' S' => exact fun c v e y s m => h c v e (x.trans y) s m
  | brk ρ' S' => exact fun c v e y s m => h c v e (x.trans y) s m
  | cnt ρ' S' => exact fun c v e y s m => h c v e (x.trans y) s m
  | ret ρ' S' => exact fun c v e y s m => h c v e (x.trans y) s m
  | exn e ρ' S' => exact fun c v d f e y s m => h c v d f e (x.trans y) s m
  | stuck => exact h
end
/-- an expression, read by f, .. -/
abbrev QE (X : Cx) (W : WX) (e : Expr) (f : XE) : Prop := PE X e (IE X.K X.mg W f)
abbrev QA (X : Cx) (W : WX) (e : List Expr) (f : XA) : Prop := PA X e (IA X.K X.mg W f)
abbrev QT (X : Cx) (W : WX) (e : Expr) (f : XT) : Prop := PT X e (IT X.K X.mg W f)
abbrev QS (X : Cx) (W : WX) (s : Stmt) (g : XS) : Prop := PS X s (IS X.K X.mg W g)
abbrev QSs (X : Cx) (W : WX) (s : List Stmt) (g : XS) : Prop := PSs X s (IS X.K X.mg W g)
theorem PE.weak {X : Cx} {e : Expr} {t u : TE} (h : PE X e t) (w : ∀ σ H Q, u σ H Q → t σ H Q) : PE X e u := ⟨fun pins s σ H Q I q => h.run pins s σ H Q I (w σ H Q q)⟩
theorem PA.weak {X : Cx} {e : List Expr} {t u : TA} (h : PA X e t) (w : ∀ σ H Q, u σ H Q → t σ H Q) : PA X e u := ⟨fun pos pins s σ H Q I q => h.run pos pins s σ H Q I (w σ H Q q)⟩
theorem PT.weak {X : Cx} {e : Expr} {t u : TT} (h : PT X e t) (w : ∀ σ H Q, u σ H Q → t σ H Q) : PT X e u := ⟨fun pins s σ H Q I q => h.run pins s σ H Q I (w σ H Q q)⟩
theorem PW.weak {X : Cx} {e : Expr} {t u : TT} (h : PW X e t) (w : ∀ σ H Q, u σ H Q → t σ H Q) : PW X e u := ⟨fun wh pins s σ H Q I q => h.run wh pins s σ H Q I (w σ H Q q)⟩
theorem PS.weak {X : Cx} {e : Stmt} {t u : TS} (h : PS X e t) (w : ∀ D σ H, u D σ H → t D σ H) : PS X e u := ⟨fun pins s σ H D I q => h.run pins s σ H D I (w D σ H q)⟩
theorem PSs.weak {X : Cx} {e : List Stmt} {t u : TS} (h : PSs X e t) (w : ∀ D σ H, u D σ H → t D σ H) : PSs X e u := ⟨fun pins s σ H D I q => h.run pins s σ H D I (w D σ H q)⟩
end MK

/-! MK, part 2: expressions. -/
namespace MK
open PySem L2
section
variable {K : PySem.W.Frag} {mg : Str → Option Value} {N : Addr → Prop}
/-! ### objects laid, written -/
theorem laid {a : S3} {p : Addr} {o : HO} (sr : SR K mg N a) (hp : a.H p = none) : Ext a ⟨a.i, a.S, upd a.H p o⟩ ∧ SR K mg N ⟨a.i, a.S, upd a.H p o⟩ ∧ Fz N ⟨a.i, a.S, upd a.H p o⟩ p = some o := by
  have ne : ∀ {x u}, a.H x = some u → x ≠ p := fun h e => by rw [e, hp] at h; cases h
  have ex : Ext a ⟨a.i, a.S, upd a.H p o⟩ := ⟨fun _ _ => rfl, Nat.le_refl _, fun x u h _ => by show upd a.H p o x = _; rw [upd_ne (ne h)]; exact h, fun x h => .inl h⟩
  have own : ∀ {x}, Own a x → x ≠ p := fun h e => by
    have := sr.lt h
    rw [e] at this
    exact this hp
  refine ⟨ex, ⟨fun b h => ?_, sr.nn, sr.inj, fun k ob e => ?_⟩, ?_⟩
  · have q := sr.nm b h
    show upd a.H p o b ≠ none
    rw [upd_ne (fun e => q (by rw [e]; exact hp))]
    exact q
  · have q := sr.at_ k ob e
    cases ob with
    | lst ms => obtain ⟨ws, h, t⟩ := q; exact ⟨ws, by show upd a.H p o _ = _; rw [upd_ne (ne h)]; exact h, MRs.ext ex t⟩
    | dK ms => obtain ⟨ws, h, t⟩ := q; exact ⟨ws, by show upd a.H p o _ = _; rw [upd_ne (ne h)]; exact h, MRps.ext ex t⟩
    | dT ms => obtain ⟨ws, h, t⟩ := q; exact ⟨ws, by show upd a.H p o _ = _; rw [upd_ne (ne h)]; exact h, MRps.ext ex t⟩
    | ins c fs => obtain ⟨C, dx, ws, h, m, t⟩ := q; exact ⟨C, dx, ws, by show upd a.H p o _ = _; rw [upd_ne (ne h)]; exact h, m, MRps.ext ex t⟩
    | dead => trivial
  · refine hide_some.mpr ⟨fun h => ?_, upd_same⟩
    rcases h with h | h
    · exact sr.nm p h hp
    · exact own (x := p) h rfl
/-- where the heap has grown only -/
theorem grown {a : S3} {H' : Hp} (sr : SR K mg N a) (s : Same a.H H') : Ext a ⟨a.i, a.S, H'⟩ ∧ SR K mg N ⟨a.i, a.S, H'⟩ := by
  have ex : Ext a ⟨a.i, a.S, H'⟩ := ⟨fun _ _ => rfl, Nat.le_refl _, fun x u h _ => s x u h, fun x h => .inl h⟩
  refine ⟨ex, ⟨fun b h => ?_, sr.nn, sr.inj, fun k ob e => ?_⟩⟩
  · have q := sr.nm b h
    cases e : a.H b with
    | none => exact (q e).elim
    | some o => show H' b ≠ none; rw [s b o e]; simp
  · have q := sr.at_ k ob e
    cases ob with
    | lst ms => obtain ⟨ws, h, t⟩ := q; exact ⟨ws, s _ _ h, MRs.ext ex t⟩
    | dK ms => obtain ⟨ws, h, t⟩ := q; exact ⟨ws, s _ _ h, MRps.ext ex t⟩
    | dT ms => obtain ⟨ws, h, t⟩ := q; exact ⟨ws, s _ _ h, MRps.ext ex t⟩
    | ins c fs => obtain ⟨C, dx, ws, h, m, t⟩ := q; exact ⟨C, dx, ws, s _ _ h, m, MRps.ext ex t⟩
    | dead => trivial
/-- a new place -/
def put (i : Nat → Addr) (n : Nat) (p : Addr) : Nat → Addr := fun k => if k = n then p else i k
theorem put_at {i : Nat → Addr} {n : Nat} {p : Addr} : put i n p n = p := if_pos rfl
theorem put_ne {i : Nat → Addr} {n : Nat} {p : Addr} {k : Nat} (h : k ≠ n) : put i n p k = i k := if_neg h
theorem placed {a : S3} {p : Addr} {o : HO} {ob : Ob} (sr : SR K mg N a) (hp : a.H p = none)
    (hob : ∀ b : S3, Ext a b → b.H p = some o → OR K mg N b p ob) :
    Ext a ⟨put a.i a.S.length p, a.S ++ [ob], upd a.H p o⟩ ∧ SR K mg N ⟨put a.i a.S.length p, a.S ++ [ob], upd a.H p o⟩ := by
  have ne : ∀ {x u}, a.H x = some u → x ≠ p := fun h e => by rw [e, hp] at h; cases h
  have lo : ∀ {k : Nat} {u}, a.S[k]? = some u → put a.i a.S.length p k = a.i k := fun {k u} h => put_ne (Nat.ne_of_lt (List.getElem?_eq_some_iff.mp h).1)
  have get : ∀ {k : Nat} {u}, (a.S ++ [ob])[k]? = some u → a.S[k]? = some u ∨ (k = a.S.length ∧ u = ob) := fun {k u} h => by
    by_cases hk : k < a.S.length
    · rw [List.getElem?_append_left hk] at h; exact .inl h
    · rw [List.getElem?_append_right (Nat.le_of_not_lt hk)] at h
      have hl := (List.getElem?_eq_some_iff.mp h).1
      have e0 : k - a.S.length = 0 := by simp at hl; omega
      rw [e0] at h
      exact .inr ⟨by omega, by simpa using h.symm⟩
  have ex : Ext a ⟨put a.i a.S.length p, a.S ++ [ob], upd a.H p o⟩ := by
    refine ⟨fun k h => put_ne (Nat.ne_of_lt h), by simp, fun x u h _ => by show upd a.H p o x = _; rw [upd_ne (ne h)]; exact h, fun x h => ?_⟩
    obtain ⟨k, u, e, nd, rfl⟩ := h
    rcases get e with e | ⟨rfl, rfl⟩
    · exact .inl ⟨k, u, e, nd, (lo e).symm⟩
    · right; show a.H (put a.i a.S.length p a.S.length) = none; rw [put_at]; exact hp
  refine ⟨ex, ⟨fun b h => ?_, fun b h => ?_, fun j k oj ok ej ek nj nk e => ?_, fun k u e => ?_⟩⟩
  · have q := sr.nm b h
    show upd a.H p o b ≠ none
    rw [upd_ne (fun e => q (by rw [e]; exact hp))]
    exact q
  · obtain ⟨k, u, e, nd, rfl⟩ := h
    rcases get e with e | ⟨rfl, rfl⟩
    · exact fun q => sr.nn (a.i k) ⟨k, u, e, nd, rfl⟩ (by rw [← lo e]; exact q)
    · intro q
      have q' : N p := by rw [← put_at (i := a.i) (n := a.S.length) (p := p)]; exact q
      exact sr.nm p q' hp
  · replace e : put a.i a.S.length p j = put a.i a.S.length p k := e
    rcases get ej with e1 | ⟨hj, z1⟩
    · rcases get ek with e2 | ⟨hk, z2⟩
      · rw [lo e1, lo e2] at e; exact sr.inj j k oj ok e1 e2 nj nk e
      · rw [lo e1, hk, put_at] at e
        exact (sr.lt ⟨j, oj, e1, nj, e⟩ hp).elim
    · rcases get ek with e2 | ⟨hk, z2⟩
      · rw [lo e2, hj, put_at] at e
        exact (sr.lt ⟨k, ok, e2, nk, e.symm⟩ hp).elim
      · rw [hj, hk]
  · rcases get e with e | ⟨rfl, rfl⟩
    · have q := sr.at_ k u e
      show OR K mg N _ (put a.i a.S.length p k) u
      rw [lo e]
      cases u with
      | lst ms => obtain ⟨ws, h, t⟩ := q; exact ⟨ws, by show upd a.H p o _ = _; rw [upd_ne (ne h)]; exact h, MRs.ext ex t⟩
      | dK ms => obtain ⟨ws, h, t⟩ := q; exact ⟨ws, by show upd a.H p o _ = _; rw [upd_ne (ne h)]; exact h, MRps.ext ex t⟩
      | dT ms => obtain ⟨ws, h, t⟩ := q; exact ⟨ws, by show upd a.H p o _ = _; rw [upd_ne (ne h)]; exact h, MRps.ext ex t⟩
      | ins c fs => obtain ⟨C, dx, ws, h, m, t⟩ := q; exact ⟨C, dx, ws, by show upd a.H p o _ = _; rw [upd_ne (ne h)]; exact h, m, MRps.ext ex t⟩
      | dead => trivial
    · show OR K mg N _ (put a.i a.S.length p a.S.length) u
      rw [put_at]
      exact hob _ ex upd_same
/-- a place written -/
theorem written {a : S3} {k : Nat} {o : HO} {ob ob' : Ob} (sr : SR K mg N a) (e : a.S[k]? = some ob) (nd : ob ≠ .dead) (nd' : ob' ≠ .dead)
    (hob : ∀ b : S3, Ext a b → b.H (a.i k) = some o → OR K mg N b (a.i k) ob') :
    Ext a ⟨a.i, a.S.set k ob', upd a.H (a.i k) o⟩ ∧ SR K mg N ⟨a.i, a.S.set k ob', upd a.H (a.i k) o⟩ := by
  have hk := (List.getElem?_eq_some_iff.mp e).1
  have get : ∀ {j : Nat} {u}, (a.S.set k ob')[j]? = some u → (j = k ∧ u = ob') ∨ (j ≠ k ∧ a.S[j]? = some u) := fun {j u} h => by
    by_cases hj : k = j
    · subst hj
      rw [List.getElem?_set_self hk] at h
      exact .inl ⟨rfl, (Option.some.inj h).symm⟩
    · rw [List.getElem?_set_ne hj] at h
      exact .inr ⟨fun q => hj q.symm, h⟩
  have live : ∀ {x}, Own ⟨a.i, a.S.set k ob', upd a.H (a.i k) o⟩ x → Own a x := fun {x} h => by
    obtain ⟨j, u, e1, n1, rfl⟩ := h
    rcases get e1 with ⟨rfl, rfl⟩ | ⟨_, e1⟩
    · exact ⟨j, ob, e, nd, rfl⟩
    · exact ⟨j, u, e1, n1, rfl⟩
  have ownk : Own a (a.i k) := ⟨k, ob, e, nd, rfl⟩
  have ex : Ext a ⟨a.i, a.S.set k ob', upd a.H (a.i k) o⟩ := by
    refine ⟨fun _ _ => rfl, by simp, fun x u h n => ?_, fun x h => .inl (live h)⟩
    show upd a.H (a.i k) o x = _
    rw [upd_ne (fun q => n (by rw [q]; exact ownk))]
    exact h
  refine ⟨ex, ⟨fun b h => ?_, fun b h => sr.nn b (live h), fun j l oj ol ej el nj nl q => ?_, fun j u e1 => ?_⟩⟩
  · have q := sr.nm b h
    show upd a.H (a.i k) o b ≠ none
    by_cases hb : b = a.i k
    · rw [hb, upd_same]; simp
    · rw [upd_ne hb]; exact q
  · have h1 : ∃ u, a.S[j]? = some u ∧ u ≠ .dead := by
      rcases get ej with ⟨rfl, rfl⟩ | ⟨_, z⟩
      · exact ⟨ob, e, nd⟩
      · exact ⟨oj, z, nj⟩
    have h2 : ∃ u, a.S[l]? = some u ∧ u ≠ .dead := by
      rcases get el with ⟨rfl, rfl⟩ | ⟨_, z⟩
      · exact ⟨ob, e, nd⟩
      · exact ⟨ol, z, nl⟩
    obtain ⟨u, z1, z2⟩ := h1
    obtain ⟨u', z3, z4⟩ := h2
    exact sr.inj j l u u' z1 z3 z2 z4 q
  · rcases get e1 with ⟨rfl, rfl⟩ | ⟨hj, e1⟩
    · exact hob _ ex upd_same
    · have q := sr.at_ j u e1
      have ne : u ≠ .dead → a.i j ≠ a.i k := fun nu z => hj (sr.inj j k u ob e1 e nu nd z)
      cases u with
      | lst ms => obtain ⟨ws, h, t⟩ := q; exact ⟨ws, by show upd a.H _ o _ = _; rw [upd_ne (ne (by simp))]; exact h, MRs.ext ex t⟩
      | dK ms => obtain ⟨ws, h, t⟩ := q; exact ⟨ws, by show upd a.H _ o _ = _; rw [upd_ne (ne (by simp))]; exact h, MRps.ext ex t⟩
      | dT ms => obtain ⟨ws, h, t⟩ := q; exact ⟨ws, by show upd a.H _ o _ = _; rw [upd_ne (ne (by simp))]; exact h, MRps.ext ex t⟩
      | ins c fs => obtain ⟨C, dx, ws, h, m, t⟩ := q; exact ⟨C, dx, ws, by show upd a.H _ o _ = _; rw [upd_ne (ne (by simp))]; exact h, m, MRps.ext ex t⟩
      | dead => trivial

/-! ### results -/
theorem Post.okv {a : S3} {W : XK} {Q : VK} {d : Dv} {v : V} (sr : SR K mg N a) (h : Post (MR K mg N) K mg N a W Q (.ok (.val d) a.S)) (r : VR K mg (Fz N a) d v) : Q v a.H := h a v rfl (.refl a) sr r
theorem Post.okm {α β : Type} {rel : S3 → α → β → Prop} {a : S3} {W : XK} {Q : β → Hp → Prop} {m : α} {v : β} (sr : SR K mg N a) (h : Post rel K mg N a W Q (.ok m a.S)) (r : rel a m v) : Q v a.H := h a v rfl (.refl a) sr r

/-! ### what a value is -/
theorem MR.int {a : S3} {i : Int} {v : V} (h : MR K mg N a (.val (.int i)) v) : v = .int i := by cases h; rfl
theorem MR.bl {a : S3} {i : Bool} {v : V} (h : MR K mg N a (.val (.bl i)) v) : v = .bl i := by cases h; rfl
theorem MR.str {a : S3} {i : Tx} {v : V} (h : MR K mg N a (.val (.str i)) v) : v = .str (sT i) := by cases h; rfl
theorem MR.non {a : S3} {v : V} (h : MR K mg N a (.val .non) v) : v = .non := by cases h; rfl
theorem VRs.paired {a : S3} : ∀ {ds : List Dv} {vs : List V}, VRs K mg (Fz N a) ds vs → Paired (MR K mg N a) (ds.map .val) vs
  | _, _, .nil => .nil
  | _, _, .cons h t => .cons h (VRs.paired t)
theorem paired_vals {a : S3} : ∀ {ds : List Dv} {vs : List V}, Paired (MR K mg N a) (ds.map .val) vs → VRs K mg (Fz N a) ds vs
  | [], _, .nil => .nil
  | _ :: _, _, .cons h t => .cons h (paired_vals t)
theorem MR.tup {a : S3} {ds : List Dv} {v : V} (h : MR K mg N a (.val (.tup ds)) v) : ∃ p ws, v = .ref p ∧ SqT K a.H p ws ∧ VRs K mg (Fz N a) ds ws := by
  cases h with
  | tup h t => exact ⟨_, _, rfl, Fz.sub.sqT h, t⟩
theorem MR.lst {a : S3} {ds : List Dv} {v : V} (h : MR K mg N a (.val (.lst ds)) v) : ∃ p ws, v = .ref p ∧ SqL K a.H p ws ∧ VRs K mg (Fz N a) ds ws := by
  cases h with
  | lst h t => exact ⟨_, _, rfl, Fz.sub.sqL h, t⟩

/-- the items of a list, a tuple, by value or in the store -/
inductive Sq where | l | t
def seqOf (S : Sto) : Mv → Option (Sq × List Mv)
  | .val (.tup ds) => some (.t, ds.map .val)
  | .val (.lst ds) => some (.l, ds.map .val)
  | .loc k => match S[k]? with
    | some (.lst ms) => some (.l, ms)
    | _ => none
  | _ => none
@[simp] theorem seqOf_tup (S : Sto) (ds : List Dv) : seqOf S (.val (.tup ds)) = some (.t, ds.map .val) := rfl
@[simp] theorem seqOf_lst (S : Sto) (ds : List Dv) : seqOf S (.val (.lst ds)) = some (.l, ds.map .val) := rfl
def SqO (K : PySem.W.Frag) (s : Sq) (H : Hp) (p : Addr) (ws : List V) : Prop := match s with
  | .l => SqL K H p ws
  | .t => SqT K H p ws
theorem seqOf_ok {a : S3} {m : Mv} {v : V} {s : Sq} {ms : List Mv} (sr : SR K mg N a) (r : MR K mg N a m v) (e : seqOf a.S m = some (s, ms)) : ∃ p ws, v = .ref p ∧ SqO K s a.H p ws ∧ Paired (MR K mg N a) ms ws := by
  cases m with
  | val d =>
    cases d with
    | tup ds =>
      cases e
      obtain ⟨p, ws, e, h, t⟩ := MR.tup r
      exact ⟨p, ws, e, h, VRs.paired t⟩
    | lst ds =>
      cases e
      obtain ⟨p, ws, e, h, t⟩ := MR.lst r
      exact ⟨p, ws, e, h, VRs.paired t⟩
    | _ => cases e
  | loc k =>
    obtain ⟨hk, rfl⟩ := r
    replace e : (match a.S[k]? with | some (.lst ms) => some (Sq.l, ms) | _ => none) = some (s, ms) := e
    cases q : a.S[k]? with
    | none => rw [q] at e; cases e
    | some ob =>
      rw [q] at e
      cases ob with
      | lst ms' =>
        cases e
        obtain ⟨ws, h, t⟩ := sr.at_ k _ q
        exact ⟨_, ws, rfl, SqL.of h, t⟩
      | _ => cases e
end

/-! ### names, constants -/
section
variable {X : Cx} {W : WX}
def eVar (i : Nat) : XE := fun ρ S => match ρ[i]? with
  | some (some m) => .ok m S
  | _ => .stuck
theorem qe_var (i : Nat) {x : Str} {pos : Pos} (hN : X.N[i]? = some x := by rfl) (hv : Vis X.env.scope x := by first | exact Or.inl rfl | exact Or.inr (Or.inl rfl) | exact Or.inr (Or.inr rfl)) (hd : (x == ("__debug__" : Str)) = false := by decide)
    (hcd : (x == ("__classdict__" : Str)) = false := by decide) : QE X W (.Name x pos) (eVar i) := by
  refine PE.weak (pv i hN hv hd hcd) ?_
  rintro σ H Q ⟨N, a, ρ, ⟨rfl, sr, en⟩, h⟩
  unfold eVar at h
  split at h
  · rename_i m e
    obtain ⟨v, ev, r⟩ := en.2 i m e
    exact ⟨v, ev, h a v rfl (.refl a) sr r⟩
  · exact h.elim
def eC (d : Dv) : XE := fun _ S => .ok (.val d) S
def flat1 : Dv → Option V
  | .non => some .non
  | .bl b => some (.bl b)
  | .int i => some (.int i)
  | .str x => some (.str (sT x))
  | _ => none
theorem VR.flat {K : PySem.W.Frag} {mg : Str → Option Value} {F : Hp} {d : Dv} {v : V} (h : flat1 d = some v) : VR K mg F d v := by
  cases d with
  | non => cases h; exact .non
  | bl b => cases h; exact .bl
  | int b => cases h; exact .int
  | str b => cases h; exact .str
  | _ => cases h
theorem qe_C {e : Expr} {d : Dv} {v : V} (h : PE X e (tC v)) (hf : flat1 d = some v) : QE X W e (eC d) := by
  refine PE.weak h ?_
  rintro σ H Q ⟨N, a, ρ, ⟨rfl, sr, en⟩, h⟩
  exact Post.okv sr h (.flat hf)
theorem qe_int {i j pos} : QE X W (.Constant (.int i) j pos) (eC (.int i)) := qe_C pe_int rfl
theorem qe_bl {i j pos} : QE X W (.Constant (.bool i) j pos) (eC (.bl i)) := qe_C pe_bl rfl
theorem qe_str {x : Str} {i : Tx} {j pos} (h : x = sT i := by decide +kernel) : QE X W (.Constant (.str x) j pos) (eC (.str i)) := by
  subst h
  exact qe_C pe_str rfl
theorem qe_non {j pos} : QE X W (.Constant .none j pos) (eC .non) := qe_C pe_non rfl

/-! ### operators -/
def eBin (F : Mv → Mv → Sto → Rz Mv) (fa fb : XE) : XE := fun ρ S => (fa ρ S).bind fun x S1 => (fb ρ S1).bind fun y S2 => F x y S2
def eUn (F : Mv → Sto → Rz Mv) (fa : XE) : XE := fun ρ S => (fa ρ S).bind fun x S1 => F x S1
def BinOk (K : PySem.W.Frag) (mg : Str → Option Value) (r : R2) (F : Mv → Mv → Sto → Rz Mv) : Prop :=
  ∀ (N : Addr → Prop) (a : S3) (x y : Mv) (v w : V) (W : XK) (Q : VK), SR K mg N a → MR K mg N a x v → MR K mg N a y w → Post (MR K mg N) K mg N a W Q (F x y a.S) → r v w a.H Q
def UnOk (K : PySem.W.Frag) (mg : Str → Option Value) (r : V → Hp → VK → Prop) (F : Mv → Sto → Rz Mv) : Prop :=
  ∀ (N : Addr → Prop) (a : S3) (x : Mv) (v : V) (W : XK) (Q : VK), SR K mg N a → MR K mg N a x v → Post (MR K mg N) K mg N a W Q (F x a.S) → r v a.H Q
theorem bin_read {K : PySem.W.Frag} {mg : Str → Option Value} {r : R2} {F : Mv → Mv → Sto → Rz Mv} {fa fb : XE} (hr : BinOk K mg r F) (σ : St) (H : Hp) (Q : VK) (h : IE K mg W (eBin F fa fb) σ H Q) : tOp r (IE K mg W fa) (IE K mg W fb) σ H Q := by
  obtain ⟨N, a, ρ, ⟨rfl, sr, en⟩, h⟩ := h
  refine ⟨N, a, ρ, ⟨rfl, sr, en⟩, (Post.bind_out (rel := MR K mg N) h).mono ?_⟩
  rintro v H1 ⟨b, m, rfl, x, sb, rm, h1⟩
  refine ⟨N, b, ρ, ⟨rfl, sb, en.ext x⟩, (Post.bind_out (rel := MR K mg N) h1).mono ?_⟩
  rintro w H2 ⟨c, m2, rfl, y, sc, rm2, h2⟩
  exact hr N c m m2 v w _ Q sc (rm.ext y) rm2 h2
theorem un_read {K : PySem.W.Frag} {mg : Str → Option Value} {r : V → Hp → VK → Prop} {F : Mv → Sto → Rz Mv} {fa : XE} (hr : UnOk K mg r F) (σ : St) (H : Hp) (Q : VK) (h : IE K mg W (eUn F fa) σ H Q) : tUn r (IE K mg W fa) σ H Q := by
  obtain ⟨N, a, ρ, ⟨rfl, sr, en⟩, h⟩ := h
  refine ⟨N, a, ρ, ⟨rfl, sr, en⟩, (Post.bind_out (rel := MR K mg N) h).mono ?_⟩
  rintro v H1 ⟨b, m, rfl, x, sb, rm, h1⟩
  exact hr N b m v _ Q sb rm h1
theorem qe_op {a b : Expr} {pos : Pos} {op : Operator} {r : R2} {F : Mv → Mv → Sto → Rz Mv} {fa fb : XE} (ho : OpR X (binaryOp op) r ∧ BinOk X.K X.mg r F) (ha : QE X W a fa) (hb : QE X W b fb) : QE X W (.BinOp a op b pos) (eBin F fa fb) :=
  PE.weak (pe_op ho.1 ha hb) (bin_read ho.2)
theorem qe_un {a : Expr} {pos : Pos} {op : UnaryOp} {r : V → Hp → VK → Prop} {F : Mv → Sto → Rz Mv} {fa : XE} (ho : UnR X (unaryOp op) r ∧ UnOk X.K X.mg r F) (ha : QE X W a fa) : QE X W (.UnaryOp op a pos) (eUn F fa) :=
  PE.weak (pe_un ho.1 ha) (un_read ho.2)
theorem qe_cmp {a b : Expr} {pos : Pos} {op : CmpOp} {r : R2} {F : Mv → Mv → Sto → Rz Mv} {fa fb : XE} (ho : OpR X (compareOp op) r ∧ BinOk X.K X.mg r F) (ha : QE X W a fa) (hb : QE X W b fb) (hm : behindInMarks op b = false := by first | exact nobehind _ (by decide) (by decide) | rfl) :
    QE X W (.Compare a [op] [b] pos) (eBin F fa fb) :=
  PE.weak (pe_cmpR ho.1 ha hb hm) (bin_read ho.2)
theorem qe_ix {a b : Expr} {pos : Pos} {r : R2} {F : Mv → Mv → Sto → Rz Mv} {fa fb : XE} (ho : IxR X r ∧ BinOk X.K X.mg r F) (ha : QE X W a fa) (hb : QE X W b fb) (hs : PlainIx b := by exact fun _ _ => rfl) : QE X W (.Subscript a b pos) (eBin F fa fb) :=
  PE.weak (pe_ix ho.1 ha hb hs) (bin_read ho.2)
/-- a < b < c -/
def eChain (F G : Mv → Mv → Sto → Rz Mv) (fa fb fc : XE) : XE := fun ρ S => (fa ρ S).bind fun x S1 => (fb ρ S1).bind fun y S2 => (F x y S2).bind fun z S3 => match z with
  | .val (.bl true) => (fc ρ S3).bind fun w S4 => G y w S4
  | .val (.bl false) => .ok (.val (.bl false)) S3
  | _ => .stuck
theorem qe_chain {a b c : Expr} {pos : Pos} {op op' : CmpOp} {r r' : R2} {F G : Mv → Mv → Sto → Rz Mv} {fa fb fc : XE} (ho : OpR X (compareOp op) r ∧ BinOk X.K X.mg r F) (ho' : OpR X (compareOp op') r' ∧ BinOk X.K X.mg r' G)
    (ha : QE X W a fa) (hb : QE X W b fb) (hc : QE X W c fc) (hm : lastMarks [op, op'] [b, c] = false := by with_unfolding_all rfl) : QE X W (.Compare a [op, op'] [b, c] pos) (eChain F G fa fb fc) := by
  refine PE.weak (pe_chain ho.1 ho'.1 ha hb hc hm) ?_
  rintro σ H Q ⟨N, a, ρ, ⟨rfl, sr, en⟩, h⟩
  refine ⟨N, a, ρ, ⟨rfl, sr, en⟩, (Post.bind_out (rel := MR X.K X.mg N) h).mono ?_⟩
  rintro v H1 ⟨b, m, rfl, x, sb, rm, h1⟩
  refine ⟨N, b, ρ, ⟨rfl, sb, en.ext x⟩, (Post.bind_out (rel := MR X.K X.mg N) h1).mono ?_⟩
  rintro w H2 ⟨c, m2, rfl, y, sc, rm2, h2⟩
  refine ho.2 N c m m2 v w (fun c d H' => W c d σ H') _ sc (rm.ext y) rm2 ((Post.bind_out (rel := MR X.K X.mg N) h2).mono ?_)
  rintro z H3 ⟨d, m3, rfl, zx, sd, rm3, h3⟩
  split at h3
  · cases rm3
    refine ⟨true, rfl, iteT ⟨N, d, ρ, ⟨rfl, sd, (en.ext x).ext (y.trans zx)⟩, (Post.bind_out (rel := MR X.K X.mg N) h3).mono ?_⟩⟩
    rintro w' H4 ⟨e, m4, rfl, q, se, rm4, h4⟩
    exact ho'.2 N e m2 m4 w w' _ Q se (rm2.ext (zx.trans q)) rm4 h4
  · cases rm3
    exact ⟨false, rfl, iteF (Post.okv sd h3 .bl)⟩
  · exact h3.elim

/-! ### tests -/
/-- truth of a value -/
def tru (S : Sto) : Mv → Option Bool
  | .val .non => some false
  | .val (.bl b) => some b
  | .val (.int i) => some (i != 0)
  | .val (.str x) => if x.length ≤ sizeLine then some (x.length != 0) else none
  | m => (seqOf S m).map fun p => !p.2.isEmpty
theorem isEmpty_paired {α β : Type} {F : α → β → Prop} : ∀ {xs : List α} {ys : List β}, Paired F xs ys → xs.isEmpty = ys.isEmpty
  | _, _, .nil => rfl
  | _, _, .cons _ _ => rfl
theorem tru_seq {K : PySem.W.Frag} {mg : Str → Option Value} {N : Addr → Prop} {a : S3} {m : Mv} {v : V} {b : Bool} (sr : SR K mg N a) (r : MR K mg N a m v) (e : (seqOf a.S m).map (fun p => !p.2.isEmpty) = some b) : TruV K v a.H b := by
  cases q : seqOf a.S m with
  | none => rw [q] at e; cases e
  | some p =>
    obtain ⟨s, ms⟩ := p
    rw [q] at e
    cases e
    obtain ⟨p, ws, rfl, h, t⟩ := seqOf_ok sr r q
    cases s with
    | l => exact .inl ⟨ws, h, by show (!ms.isEmpty) = _; rw [isEmpty_paired t]⟩
    | t => exact .inr (.inl ⟨ws, h, by show (!ms.isEmpty) = _; rw [isEmpty_paired t]⟩)
theorem tru_ok' {K : PySem.W.Frag} {mg : Str → Option Value} {N : Addr → Prop} {a : S3} {m : Mv} {v : V} {b : Bool} (sr : SR K mg N a) (r : MR K mg N a m v) (e : tru a.S m = some b) : TruV K v a.H b := by
  cases m with
  | loc k => exact tru_seq sr r e
  | val d =>
    cases d with
    | non => cases r; cases e; rfl
    | bl k => cases r; cases e; rfl
    | int i => cases r; cases e; rfl
    | str x =>
      cases r
      unfold tru at e
      by_cases hl : x.length ≤ sizeLine
      · simp only [hl, if_true] at e
        cases e
        refine ⟨by simpa using hl, ?_⟩
        show (x.length != 0) = (((sT x).length : Int) != 0)
        rw [sT_length]
        by_cases h0 : x.length = 0
        · rw [h0]; rfl
        · have e1 : (x.length != 0) = true := by simpa using h0
          have e2 : ((x.length : Int) != 0) = true := by simpa using h0
          rw [e1, e2]
      · simp [hl] at e
    | tup ds => exact tru_seq sr r e
    | lst ds => exact tru_seq sr r e
    | dK ds => cases e
    | dT ds => cases e
    | ins c fs => cases e
def xT (f : XE) : XT := fun ρ S => (f ρ S).bind fun m S1 => match tru S1 m with
  | some b => .ok b S1
  | none => .stuck
theorem qt_of {e : Expr} {f : XE} (h : QE X W e f) (he : ∀ whole, isTrue e X.env whole = (do let v ← whole; standAt e.pos; holding [v] (truthy v)) := by intro _; rfl) : QT X W e (xT f) := by
  refine PT.weak (pt_truth h he) ?_
  rintro σ H Q ⟨N, a, ρ, ⟨rfl, sr, en⟩, h⟩
  refine ⟨N, a, ρ, ⟨rfl, sr, en⟩, (Post.bind_out (rel := MR X.K X.mg N) h).mono ?_⟩
  rintro v H1 ⟨b, m, rfl, x, sb, rm, h1⟩
  split at h1
  · rename_i k e
    exact ⟨k, tru_ok' sb rm e, h1 b k rfl (.refl b) sb rfl⟩
  · exact h1.elim
abbrev QW (X : Cx) (W : WX) (e : Expr) (f : XT) : Prop := PW X e (IT X.K X.mg W f)
def xAnd (f g : XT) : XT := fun ρ S => (f ρ S).bind fun b S1 => match b with
  | true => g ρ S1
  | false => .ok false S1
def xOr (f g : XT) : XT := fun ρ S => (f ρ S).bind fun b S1 => match b with
  | false => g ρ S1
  | true => .ok true S1
def xNot (f : XT) : XT := fun ρ S => (f ρ S).bind fun b S1 => .ok (!b) S1
theorem and_read {K : PySem.W.Frag} {mg : Str → Option Value} {f g : XT} (σ : St) (H : Hp) (Q : Bool → Hp → Prop) (h : IT K mg W (xAnd f g) σ H Q) : tAnd (IT K mg W f) (IT K mg W g) σ H Q := by
  obtain ⟨N, a, ρ, ⟨rfl, sr, en⟩, h⟩ := h
  refine ⟨N, a, ρ, ⟨rfl, sr, en⟩, (Post.bind_out (rel := RelB) h).mono ?_⟩
  rintro v H1 ⟨b, m, rfl, x, sb, rm, h1⟩
  cases rm
  cases v with
  | true => exact iteT ⟨N, b, ρ, ⟨rfl, sb, en.ext x⟩, h1⟩
  | false => exact iteF (h1 b false rfl (.refl b) sb rfl)
theorem or_read {K : PySem.W.Frag} {mg : Str → Option Value} {f g : XT} (σ : St) (H : Hp) (Q : Bool → Hp → Prop) (h : IT K mg W (xOr f g) σ H Q) : tOr (IT K mg W f) (IT K mg W g) σ H Q := by
  obtain ⟨N, a, ρ, ⟨rfl, sr, en⟩, h⟩ := h
  refine ⟨N, a, ρ, ⟨rfl, sr, en⟩, (Post.bind_out (rel := RelB) h).mono ?_⟩
  rintro v H1 ⟨b, m, rfl, x, sb, rm, h1⟩
  cases rm
  cases v with
  | true => exact iteT (h1 b true rfl (.refl b) sb rfl)
  | false => exact iteF ⟨N, b, ρ, ⟨rfl, sb, en.ext x⟩, h1⟩
theorem qt_and1 {a : Expr} {pos : Pos} {f : XT} (h : QT X W a f) : QW X W (.BoolOp .And [a] pos) f := pw_and1 h
theorem qt_or1 {a : Expr} {pos : Pos} {f : XT} (h : QT X W a f) : QW X W (.BoolOp .Or [a] pos) f := pw_or1 h
theorem qw_and {a b : Expr} {rest : List Expr} {pos : Pos} {f g : XT} (ha : QT X W a f) (hb : QW X W (.BoolOp .And (b :: rest) pos) g) : QW X W (.BoolOp .And (a :: b :: rest) pos) (xAnd f g) := PW.weak (pw_and ha hb) and_read
theorem qw_or {a b : Expr} {rest : List Expr} {pos : Pos} {f g : XT} (ha : QT X W a f) (hb : QW X W (.BoolOp .Or (b :: rest) pos) g) : QW X W (.BoolOp .Or (a :: b :: rest) pos) (xOr f g) := PW.weak (pw_or ha hb) or_read
theorem qt_w {e : Expr} {f : XT} (h : QW X W e f) : QT X W e f := PW.pt h
theorem qt_not {a : Expr} {pos : Pos} {f : XT} (h : QT X W a f) : QT X W (.UnaryOp .Not a pos) (xNot f) := by
  refine PT.weak (pt_not h) ?_
  rintro σ H Q ⟨N, a, ρ, ⟨rfl, sr, en⟩, h⟩
  refine ⟨N, a, ρ, ⟨rfl, sr, en⟩, (Post.bind_out (rel := RelB) h).mono ?_⟩
  rintro v H1 ⟨b, m, rfl, x, sb, rm, h1⟩
  cases rm
  exact h1 b _ rfl (.refl b) sb rfl
/-- and, or, not as values, by truth -/
def eAnd (fa fb : XE) : XE := fun ρ S => (fa ρ S).bind fun x S1 => match tru S1 x with
  | some true => fb ρ S1
  | some false => .ok x S1
  | none => .stuck
def eOr (fa fb : XE) : XE := fun ρ S => (fa ρ S).bind fun x S1 => match tru S1 x with
  | some false => fb ρ S1
  | some true => .ok x S1
  | none => .stuck
def eNot (fa : XE) : XE := fun ρ S => (fa ρ S).bind fun x S1 => match tru S1 x with
  | some b => .ok (.val (.bl (!b))) S1
  | none => .stuck
theorem qe_one {a : Expr} {op : BoolOp} {pos : Pos} {f : XE} (h : QE X W a f) : QE X W (.BoolOp op [a] pos) f := pe_one h
theorem qe_or {a b : Expr} {rest : List Expr} {pos : Pos} {f g : XE} (ha : QE X W a f) (hb : QE X W (.BoolOp .Or (b :: rest) pos) g) : QE X W (.BoolOp .Or (a :: b :: rest) pos) (eOr f g) := by
  refine PE.weak (pe_orT ha hb) ?_
  rintro σ H Q ⟨N, a, ρ, ⟨rfl, sr, en⟩, h⟩
  refine ⟨N, a, ρ, ⟨rfl, sr, en⟩, (Post.bind_out (rel := MR X.K X.mg N) h).mono ?_⟩
  rintro v H1 ⟨b, m, rfl, x, sb, rm, h1⟩
  split at h1
  · rename_i e
    exact ⟨false, tru_ok' sb rm e, iteF ⟨N, b, ρ, ⟨rfl, sb, en.ext x⟩, h1⟩⟩
  · rename_i e
    exact ⟨true, tru_ok' sb rm e, iteT (Post.okm sb h1 rm)⟩
  · exact h1.elim
theorem qe_and {a b : Expr} {rest : List Expr} {pos : Pos} {f g : XE} (ha : QE X W a f) (hb : QE X W (.BoolOp .And (b :: rest) pos) g) : QE X W (.BoolOp .And (a :: b :: rest) pos) (eAnd f g) := by
  refine PE.weak (pe_andT ha hb) ?_
  rintro σ H Q ⟨N, a, ρ, ⟨rfl, sr, en⟩, h⟩
  refine ⟨N, a, ρ, ⟨rfl, sr, en⟩, (Post.bind_out (rel := MR X.K X.mg N) h).mono ?_⟩
  rintro v H1 ⟨b, m, rfl, x, sb, rm, h1⟩
  split at h1
  · rename_i e
    exact ⟨true, tru_ok' sb rm e, iteT ⟨N, b, ρ, ⟨rfl, sb, en.ext x⟩, h1⟩⟩
  · rename_i e
    exact ⟨false, tru_ok' sb rm e, iteF (Post.okm sb h1 rm)⟩
  · exact h1.elim
theorem qe_not {a : Expr} {pos : Pos} {f : XE} (ha : QE X W a f) : QE X W (.UnaryOp .Not a pos) (eNot f) := by
  refine PE.weak (pe_notT ha) ?_
  rintro σ H Q ⟨N, a, ρ, ⟨rfl, sr, en⟩, h⟩
  refine ⟨N, a, ρ, ⟨rfl, sr, en⟩, (Post.bind_out (rel := MR X.K X.mg N) h).mono ?_⟩
  rintro v H1 ⟨b, m, rfl, x, sb, rm, h1⟩
  split at h1
  · rename_i k e
    exact ⟨k, tru_ok' sb rm e, Post.okv sb h1 .bl⟩
  · exact h1.elim
def eIf (t : XT) (fa fb : XE) : XE := fun ρ S => (t ρ S).bind fun b S1 => match b with
  | true => fa ρ S1
  | false => fb ρ S1
theorem qe_if {c a b : Expr} {pos : Pos} {t : XT} {f g : XE} (hc : QT X W c t) (ha : QE X W a f) (hb : QE X W b g) : QE X W (.IfExp c a b pos) (eIf t f g) := by
  refine PE.weak (pe_ifExp hc ha hb) ?_
  rintro σ H Q ⟨N, a, ρ, ⟨rfl, sr, en⟩, h⟩
  refine ⟨N, a, ρ, ⟨rfl, sr, en⟩, (Post.bind_out (rel := RelB) h).mono ?_⟩
  rintro v H1 ⟨b, m, rfl, x, sb, rm, h1⟩
  cases rm
  cases v with
  | true => exact iteT ⟨N, b, ρ, ⟨rfl, sb, en.ext x⟩, h1⟩
  | false => exact iteF ⟨N, b, ρ, ⟨rfl, sb, en.ext x⟩, h1⟩

/-! ### arguments, displays -/
def aNil : XA := fun _ S => .ok [] S
def aCons (f : XE) (g : XA) : XA := fun ρ S => (f ρ S).bind fun x S1 => (g ρ S1).bind fun xs S2 => .ok (x :: xs) S2
theorem qa_nil : QA X W [] aNil := by
  refine PA.weak pa_nil ?_
  rintro σ H Q ⟨N, a, ρ, ⟨rfl, sr, en⟩, h⟩
  exact h a [] rfl (.refl a) sr .nil
theorem qa_cons {e : Expr} {es : List Expr} {f : XE} {g : XA} (ha : QE X W e f) (hr : QA X W es g) (hs : starEach (e :: es) X.env = (false, eval e X.env) :: starEach es X.env := by rfl) : QA X W (e :: es) (aCons f g) := by
  refine PA.weak (pa_cons ha hr hs) ?_
  rintro σ H Q ⟨N, a, ρ, ⟨rfl, sr, en⟩, h⟩
  refine ⟨N, a, ρ, ⟨rfl, sr, en⟩, (Post.bind_out (rel := MR X.K X.mg N) h).mono ?_⟩
  rintro v H1 ⟨b, m, rfl, x, sb, rm, h1⟩
  refine ⟨N, b, ρ, ⟨rfl, sb, en.ext x⟩, (Post.bind_out (rel := RelA X.K X.mg N) h1).mono ?_⟩
  rintro ws H2 ⟨c, ms, rfl, y, sc, rms, h2⟩
  exact h2 c _ rfl (.refl c) sc (.cons (rm.ext y) rms)
/-- all plain -/
def vals : List Mv → Option (List Dv)
  | [] => some []
  | .val d :: ms => (vals ms).map (d :: ·)
  | .loc _ :: _ => none
@[simp] theorem vals_nil : vals [] = some [] := rfl
@[simp] theorem vals_cons (d : Dv) (ms : List Mv) : vals (.val d :: ms) = (vals ms).map (d :: ·) := rfl
@[simp] theorem vals_map (ds : List Dv) : vals (ds.map .val) = some ds := by
  induction ds with
  | nil => rfl
  | cons d ds ih => simp [ih]
theorem vals_some : ∀ {ms : List Mv} {ds : List Dv}, vals ms = some ds → ms = ds.map .val
  | [], _, h => by cases h; rfl
  | .val d :: ms, ds, h => by
    cases q : vals ms with
    | none => rw [vals_cons, q] at h; cases h
    | some es =>
      rw [vals_cons, q] at h
      cases h
      rw [vals_some q]; rfl
  | .loc _ :: _, _, h => by cases h
theorem paired_len {α β : Type} {F : α → β → Prop} : ∀ {xs : List α} {ys : List β}, Paired F xs ys → xs.length = ys.length
  | _, _, .nil => rfl
  | _, _, .cons _ t => congrArg (· + 1) (paired_len t)
/-- a new tuple, by value -/
def mkTup (ms : List Mv) (S : Sto) : Rz Mv := match vals ms with
  | some ds => if ds.length ≤ sizeLine then .ok (.val (.tup ds)) S else .stuck
  | none => .stuck
/-- a new list that is never changed, by value -/
def mkLst (ms : List Mv) (S : Sto) : Rz Mv := match vals ms with
  | some ds => if ds.length ≤ sizeLine then .ok (.val (.lst ds)) S else .stuck
  | none => .stuck
/-- a new list in the store -/
def mkLoc (ms : List Mv) (S : Sto) : Rz Mv := if ms.length ≤ sizeLine then .ok (.loc S.length) (S ++ [.lst ms]) else .stuck
section
variable {K : PySem.W.Frag} {mg : Str → Option Value} {N : Addr → Prop}
theorem mkTup_ok {a : S3} {ms : List Mv} {ws : List V} {W : XK} {Q : VK} (sr : SR K mg N a) (r : Paired (MR K mg N a) ms ws) (h : Post (MR K mg N) K mg N a W Q (mkTup ms a.S)) : ws.length ≤ sizeLine ∧ ∀ p, a.H p = none → Q (.ref p) (upd a.H p (.tup ws)) := by
  unfold mkTup at h
  split at h
  · rename_i ds e
    rw [vals_some e] at r
    split at h
    · rename_i hl
      have rs := paired_vals r
      refine ⟨by rw [← rs.length]; exact hl, fun p hp => ?_⟩
      obtain ⟨ex, sr', fz⟩ := laid (o := .tup ws) sr hp
      exact h ⟨a.i, a.S, upd a.H p (.tup ws)⟩ (.ref p) rfl ex sr' (VR.tup (SqT.of fz) (rs.mono ex.fz))
    · exact h.elim
  · exact h.elim
theorem mkLst_ok {a : S3} {ms : List Mv} {ws : List V} {W : XK} {Q : VK} (sr : SR K mg N a) (r : Paired (MR K mg N a) ms ws) (h : Post (MR K mg N) K mg N a W Q (mkLst ms a.S)) : ws.length ≤ sizeLine ∧ ∀ p, a.H p = none → Q (.ref p) (upd a.H p (.lst ws)) := by
  unfold mkLst at h
  split at h
  · rename_i ds e
    rw [vals_some e] at r
    split at h
    · rename_i hl
      have rs := paired_vals r
      refine ⟨by rw [← rs.length]; exact hl, fun p hp => ?_⟩
      obtain ⟨ex, sr', fz⟩ := laid (o := .lst ws) sr hp
      exact h ⟨a.i, a.S, upd a.H p (.lst ws)⟩ (.ref p) rfl ex sr' (VR.lst (SqL.of fz) (rs.mono ex.fz))
    · exact h.elim
  · exact h.elim
theorem mkLoc_ok {a : S3} {ms : List Mv} {ws : List V} {W : XK} {Q : VK} (sr : SR K mg N a) (r : Paired (MR K mg N a) ms ws) (h : Post (MR K mg N) K mg N a W Q (mkLoc ms a.S)) : ws.length ≤ sizeLine ∧ ∀ p, a.H p = none → Q (.ref p) (upd a.H p (.lst ws)) := by
  unfold mkLoc at h
  split at h
  · rename_i hl
    refine ⟨by rw [← paired_len r]; exact hl, fun p hp => ?_⟩
    obtain ⟨ex, sr'⟩ := placed (o := .lst ws) (ob := .lst ms) sr hp fun b x q => ⟨ws, q, MRs.ext x r⟩
    exact h ⟨put a.i a.S.length p, a.S ++ [.lst ms], upd a.H p (.lst ws)⟩ (.ref p) rfl ex sr' ⟨by simp, by show V.ref p = V.ref (put a.i a.S.length p a.S.length); rw [put_at]⟩
  · exact h.elim
end
def eMk (F : List Mv → Sto → Rz Mv) (g : XA) : XE := fun ρ S => (g ρ S).bind F
def MkOk (K : PySem.W.Frag) (mg : Str → Option Value) (r : List V → Hp → VK → Prop) (F : List Mv → Sto → Rz Mv) : Prop :=
  ∀ (N : Addr → Prop) (a : S3) (xs : List Mv) (vs : List V) (W : XK) (Q : VK), SR K mg N a → Paired (MR K mg N a) xs vs → Post (MR K mg N) K mg N a W Q (F xs a.S) → r vs a.H Q
theorem mk_read {K : PySem.W.Frag} {mg : Str → Option Value} {r : List V → Hp → VK → Prop} {F : List Mv → Sto → Rz Mv} {g : XA} (hr : MkOk K mg r F) (σ : St) (H : Hp) (Q : VK) (h : IE K mg W (eMk F g) σ H Q) : IA K mg W g σ H (fun vs H1 => r vs H1 Q) := by
  obtain ⟨N, a, ρ, ⟨rfl, sr, en⟩, h⟩ := h
  refine ⟨N, a, ρ, ⟨rfl, sr, en⟩, (Post.bind_out (rel := RelA K mg N) h).mono ?_⟩
  rintro v H1 ⟨b, m, rfl, x, sb, rm, h1⟩
  exact hr N b m v _ Q sb rm h1
theorem qe_tup {es : List Expr} {x1} {pos : Pos} {g : XA} (h : QA X W es g) : QE X W (.Tuple es x1 pos) (eMk mkTup g) := PE.weak (pe_tup h) (mk_read fun _ _ _ _ _ _ => mkTup_ok)
theorem qe_lst {es : List Expr} {pos : Pos} {g : XA} (h : QA X W es g) : QE X W (.List es pos) (eMk mkLst g) := PE.weak (pe_lst h) (mk_read fun _ _ _ _ _ _ => mkLst_ok)
theorem qe_lstN {es : List Expr} {pos : Pos} {g : XA} (h : QA X W es g) : QE X W (.List es pos) (eMk mkLoc g) := PE.weak (pe_lst h) (mk_read fun _ _ _ _ _ _ => mkLoc_ok)
/-! ### calls of built-ins -/
theorem qe_callB {id : String} {x : Str} {p pos : Pos} {e : Expr} {es : List Expr} {g : XA} {r : List V → Hp → VK → Prop} {F : List Mv → Sto → Rz Mv} (hc : CallR X (.builtin id) r ∧ MkOk X.K X.mg r F) (hm : X.mg x = none) (ha : QA X W (e :: es) g) (hg : Gl X x := by rfl) (hv : bootBuiltins x = some (.builtin id) := by decide +kernel)
    (hn : x ≠ "__name__" := by decide) (hdb : (x == ("__debug__" : Str)) = false := by decide)
    (he : starEach (e :: es) X.env = (false, eval e X.env) :: starEach es X.env := by rfl) (hpl : (backTo pos (starEach es X.env)).any (·.1) = false := by rfl) : QE X W (.Call (.Name x p) (e :: es) [] pos) (eMk F g) :=
  PE.weak (pe_callB hc.1 hg hm hv ha hn hdb he hpl) (mk_read hc.2)
theorem qe_callTy {T : String} {x : Str} {p pos : Pos} {e : Expr} {es : List Expr} {g : XA} {r : List V → Hp → VK → Prop} {F : List Mv → Sto → Rz Mv} (hc : CallR X (.type T) r ∧ MkOk X.K X.mg r F) (hm : X.mg x = none) (ha : QA X W (e :: es) g) (hg : Gl X x := by rfl) (hv : bootBuiltins x = some (.type T) := by decide +kernel)
    (hn : x ≠ "__name__" := by decide) (hdb : (x == ("__debug__" : Str)) = false := by decide)
    (he : starEach (e :: es) X.env = (false, eval e X.env) :: starEach es X.env := by rfl) (hpl : (backTo pos (starEach es X.env)).any (·.1) = false := by rfl) : QE X W (.Call (.Name x p) (e :: es) [] pos) (eMk F g) :=
  PE.weak (pe_callTy hc.1 hg hm hv ha hn hdb he hpl) (mk_read hc.2)
/-! ### methods of built-in types -/
def eBm0 (F : Mv → List Mv → Sto → Rz Mv) (f : XE) : XE := fun ρ S => (f ρ S).bind fun x S1 => F x [] S1
def eBm (F : Mv → List Mv → Sto → Rz Mv) (T : Sto → Mv → Bool) (f : XE) (g : XA) : XE := fun ρ S => (f ρ S).bind fun x S1 => if T S1 x then (g ρ S1).bind fun xs S2 => F x xs S2 else .stuck
def MtOk (K : PySem.W.Frag) (mg : Str → Option Value) (r : V → List V → Hp → VK → Prop) (F : Mv → List Mv → Sto → Rz Mv) : Prop :=
  ∀ (N : Addr → Prop) (a : S3) (x : Mv) (v : V) (xs : List Mv) (vs : List V) (W : XK) (Q : VK), SR K mg N a → MR K mg N a x v → Paired (MR K mg N a) xs vs → Post (MR K mg N) K mg N a W Q (F x xs a.S) → r v vs a.H Q
/-- is it of the built-in type T (so that T's method is found) -/
def isStr (_ : Sto) : Mv → Bool
  | .val (.str _) => true
  | _ => false
def isLst (S : Sto) : Mv → Bool
  | .val (.lst _) => true
  | .loc k => match S[k]? with
    | some (.lst _) => true
    | _ => false
  | _ => false
def isDic (S : Sto) : Mv → Bool
  | .loc k => match S[k]? with
    | some (.dK _) => true
    | some (.dT _) => true
    | _ => false
  | _ => false
def TyOk (K : PySem.W.Frag) (mg : Str → Option Value) (T : String) (f : Sto → Mv → Bool) : Prop := ∀ (N : Addr → Prop) (a : S3) (x : Mv) (v : V), SR K mg N a → MR K mg N a x v → f a.S x = true → tyV K T v a.H
theorem ty_str {K : PySem.W.Frag} {mg : Str → Option Value} : TyOk K mg "str" isStr := by
  intro N a x v sr r h
  cases x with
  | loc k => cases h
  | val d =>
    cases d with
    | str x => cases r; rfl
    | _ => cases h
theorem ty_lst {K : PySem.W.Frag} {mg : Str → Option Value} : TyOk K mg "list" isLst := by
  intro N a x v sr r h
  cases x with
  | loc k =>
    obtain ⟨hk, rfl⟩ := r
    replace h : (match a.S[k]? with | some (.lst _) => true | _ => false) = true := h
    split at h
    · rename_i ms e
      obtain ⟨ws, h, _⟩ := sr.at_ k _ e
      exact .inl ⟨rfl, ws, .of h⟩
    · cases h
  | val d =>
    cases d with
    | lst x =>
      obtain ⟨p, ws, rfl, h, _⟩ := MR.lst r
      exact .inl ⟨rfl, ws, h⟩
    | _ => cases h
theorem ty_dic {K : PySem.W.Frag} {mg : Str → Option Value} : TyOk K mg "dict" isDic := by
  intro N a x v sr r h
  cases x with
  | loc k =>
    obtain ⟨hk, rfl⟩ := r
    replace h : (match a.S[k]? with | some (.dK _) => true | some (.dT _) => true | _ => false) = true := h
    split at h
    · rename_i ms e
      obtain ⟨ws, h, _⟩ := sr.at_ k _ e
      exact .inr (.inr (.inl ⟨rfl, .inl ⟨ws, h⟩⟩))
    · rename_i ms e
      obtain ⟨ws, h, _⟩ := sr.at_ k _ e
      exact .inr (.inr (.inl ⟨rfl, .inr ⟨ws, h⟩⟩))
    · cases h
  | val d => cases h
theorem qe_bm {name : Str} {T id : String} {o e : Expr} {es : List Expr} {apos cpos : Pos} {f : XE} {g : XA} {r : V → List V → Hp → VK → Prop} {F : Mv → List Mv → Sto → Rz Mv} {ty : Sto → Mv → Bool} (pa : PlainAttrs T) (slot : Slot T name id) (hty : typeOf (.builtin id) = pure (.type "method_descriptor"))
    (hm : MtR X id r ∧ MtOk X.K X.mg r F) (tk : TyOk X.K X.mg T ty) (ho : QE X W o f) (ha : QA X W (e :: es) g)
    (hbase : attributeBase o name X.env (eval o X.env) = eval o X.env := by rfl)
    (hfew : ((backTo cpos (starEach (e :: es) X.env)).all (fun x => !x.1) && (backToKw cpos (keywordEach [] X.env)).all (fun x => x.1.isSome)
      && decide ((e :: es).length + ([] : List Keyword).length + (if ([] : List Keyword).isEmpty then 0 else 1) < 30)) = true := by rfl)
    (hline : (apos.endLine == cpos.line) = true := by rfl) (hs : starEach (e :: es) X.env = (false, eval e X.env) :: starEach es X.env := by rfl) (hplain : (backTo cpos (starEach es X.env)).any (·.1) = false := by rfl) :
    QE X W (.Call (.Attribute o name apos) (e :: es) [] cpos) (eBm F ty f g) := by
  refine PE.weak (pe_bm pa slot hty hm.1 ho ha hbase hfew hline hs hplain) ?_
  rintro σ H Q ⟨N, a, ρ, ⟨rfl, sr, en⟩, h⟩
  refine ⟨N, a, ρ, ⟨rfl, sr, en⟩, (Post.bind_out (rel := MR X.K X.mg N) h).mono ?_⟩
  rintro v H1 ⟨b, m, rfl, x, sb, rm, h1⟩
  split at h1
  · rename_i ht
    refine ⟨tk N b m v sb rm ht, N, b, ρ, ⟨rfl, sb, en.ext x⟩, (Post.bind_out (rel := RelA X.K X.mg N) h1).mono ?_⟩
    rintro ws H2 ⟨c, ms, rfl, y, sc, rms, h2⟩
    exact hm.2 N c m v ms ws _ Q sc (rm.ext y) rms h2
  · exact h1.elim
def eBmN (F : Mv → List Mv → Sto → Rz Mv) (T : Sto → Mv → Bool) (f : XE) : XE := fun ρ S => (f ρ S).bind fun x S1 => if T S1 x then F x [] S1 else .stuck
theorem qe_bm0 {name : Str} {T id : String} {o : Expr} {apos cpos : Pos} {f : XE} {r : V → List V → Hp → VK → Prop} {F : Mv → List Mv → Sto → Rz Mv} {ty : Sto → Mv → Bool} (pa : PlainAttrs T) (slot : Slot T name id) (hty : typeOf (.builtin id) = pure (.type "method_descriptor"))
    (hm : MtR X id r ∧ MtOk X.K X.mg r F) (tk : TyOk X.K X.mg T ty) (ho : QE X W o f)
    (hbase : attributeBase o name X.env (eval o X.env) = eval o X.env := by rfl) (hline : (apos.endLine == cpos.line) = true := by rfl) : QE X W (.Call (.Attribute o name apos) [] [] cpos) (eBmN F ty f) := by
  refine PE.weak (pe_bm0 pa slot hty hm.1 ho hbase hline) ?_
  rintro σ H Q ⟨N, a, ρ, ⟨rfl, sr, en⟩, h⟩
  refine ⟨N, a, ρ, ⟨rfl, sr, en⟩, (Post.bind_out (rel := MR X.K X.mg N) h).mono ?_⟩
  rintro v H1 ⟨b, m, rfl, x, sb, rm, h1⟩
  split at h1
  · rename_i ht
    exact ⟨tk N b m v sb rm ht, hm.2 N b m v [] [] _ Q sb rm .nil h1⟩
  · exact h1.elim
end
end MK

/-! MK, part 3: statements, loops. -/
namespace MK
open PySem L2
def Rz.thn {α : Type} (x : Rz α) (ρ : List (Option Mv)) (k : α → Sto → RS) : RS := match x with
  | .ok a S => k a S
  | .exn e S => .exn e ρ S
  | .stuck => .stuck
@[simp] theorem Rz.thn_ok {α : Type} (a : α) (S : Sto) (ρ : List (Option Mv)) (k : α → Sto → RS) : (Rz.ok a S).thn ρ k = k a S := rfl
@[simp] theorem Rz.thn_exn {α : Type} (e : Exn) (S : Sto) (ρ : List (Option Mv)) (k : α → Sto → RS) : (Rz.exn e S : Rz α).thn ρ k = .exn e ρ S := rfl
@[simp] theorem Rz.thn_stuck {α : Type} (ρ : List (Option Mv)) (k : α → Sto → RS) : (Rz.stuck : Rz α).thn ρ k = .stuck := rfl
def RS.seq (x : RS) (k : List (Option Mv) → Sto → RS) : RS := match x with
  | .nx ρ S => k ρ S
  | r => r
@[simp] theorem RS.seq_nx (ρ : List (Option Mv)) (S : Sto) (k) : (RS.nx ρ S).seq k = k ρ S := rfl
@[simp] theorem RS.seq_ret (m : Mv) (S : Sto) (k) : (RS.ret m S).seq k = .ret m S := rfl
@[simp] theorem RS.seq_brk (ρ : List (Option Mv)) (S : Sto) (k) : (RS.brk ρ S).seq k = .brk ρ S := rfl
@[simp] theorem RS.seq_cnt (ρ : List (Option Mv)) (S : Sto) (k) : (RS.cnt ρ S).seq k = .cnt ρ S := rfl
@[simp] theorem RS.seq_exn (e : Exn) (ρ : List (Option Mv)) (S : Sto) (k) : (RS.exn e ρ S).seq k = .exn e ρ S := rfl
@[simp] theorem RS.seq_stuck (k) : RS.stuck.seq k = .stuck := rfl
/-- a turn of a loop: what follows is k -/
def RS.turn (x : RS) (k : List (Option Mv) → Sto → RS) : RS := match x with
  | .nx ρ S => k ρ S
  | .cnt ρ S => k ρ S
  | .brk ρ S => .nx ρ S
  | r => r
@[simp] theorem RS.turn_nx (ρ : List (Option Mv)) (S : Sto) (k) : (RS.nx ρ S).turn k = k ρ S := rfl
@[simp] theorem RS.turn_cnt (ρ : List (Option Mv)) (S : Sto) (k) : (RS.cnt ρ S).turn k = k ρ S := rfl
@[simp] theorem RS.turn_brk (ρ : List (Option Mv)) (S : Sto) (k) : (RS.brk ρ S).turn k = .nx ρ S := rfl
@[simp] theorem RS.turn_ret (m : Mv) (S : Sto) (k) : (RS.ret m S).turn k = .ret m S := rfl
@[simp] theorem RS.turn_exn (e : Exn) (ρ : List (Option Mv)) (S : Sto) (k) : (RS.exn e ρ S).turn k = .exn e ρ S := rfl
@[simp] theorem RS.turn_stuck (k) : RS.stuck.turn k = .stuck := rfl
section
variable {K : PySem.W.Frag} {mg : Str → Option Value} {N : Addr → Prop}
theorem PostS.thn_out {α β : Type} {rel : S3 → α → β → Prop} {a : S3} {W : WX} {D : Ends} {x : Rz α} {ρ : List (Option Mv)} {σ : St} {k : α → Sto → RS} (en : EnvR K mg N a ρ σ) (h : PostS K mg N a W D (x.thn ρ k)) :
    Post rel K mg N a (fun c d H' => W c d σ H') (fun v H1 => ∃ b m, b.H = H1 ∧ Ext a b ∧ SR K mg N b ∧ rel b m v ∧ PostS K mg N b W D (k m b.S)) x := by
  cases x with
  | ok m S' => exact fun b v e y s r => ⟨b, m, rfl, y, s, r, by rw [e]; exact h.from_ y⟩
  | exn e S' => exact fun b cls d e y s q => h b σ cls d e y s (en.ext y) q
  | stuck => exact h
theorem PostS.seq_out {a : S3} {W : WX} {D : Ends} {x : RS} {k : List (Option Mv) → Sto → RS} (h : PostS K mg N a W D (x.seq k)) :
    PostS K mg N a W { D with nx := fun σ' H' => ∃ b ρ', Rd3 K mg N b ρ' σ' H' ∧ Ext a b ∧ PostS K mg N b W D (k ρ' b.S) } x := by
  cases x with
  | nx ρ S' => exact fun b σ' e y s en => ⟨b, ρ, ⟨rfl, s, en⟩, y, by rw [e]; exact h.from_ y⟩
  | brk ρ S' => exact h
  | cnt ρ S' => exact h
  | ret m S' => exact h
  | exn e ρ S' => exact h
  | stuck => exact h
theorem PostS.turn_out {a : S3} {W : WX} {D : Ends} {x : RS} {k : List (Option Mv) → Sto → RS} (h : PostS K mg N a W D (x.turn k)) :
    PostS K mg N a W { D with nx := fun σ' H' => ∃ b ρ', Rd3 K mg N b ρ' σ' H' ∧ Ext a b ∧ PostS K mg N b W D (k ρ' b.S), ct := fun σ' H' => ∃ b ρ', Rd3 K mg N b ρ' σ' H' ∧ Ext a b ∧ PostS K mg N b W D (k ρ' b.S), bk := D.nx } x := by
  cases x with
  | nx ρ S' => exact fun b σ' e y s en => ⟨b, ρ, ⟨rfl, s, en⟩, y, by rw [e]; exact h.from_ y⟩
  | cnt ρ S' => exact fun b σ' e y s en => ⟨b, ρ, ⟨rfl, s, en⟩, y, by rw [e]; exact h.from_ y⟩
  | brk ρ S' => exact h
  | ret m S' => exact h
  | exn e ρ S' => exact h
  | stuck => exact h
/-- what is wanted may be weakened -/
theorem PostS.mono {a : S3} {W : WX} {D D' : Ends} {x : RS} (h : PostS K mg N a W D x) (n : ∀ σ H, D.nx σ H → D'.nx σ H) (b : ∀ σ H, D.bk σ H → D'.bk σ H) (c : ∀ σ H, D.ct σ H → D'.ct σ H) (r : ∀ v H, D.rt v H → D'.rt v H) : PostS K mg N a W D' x := by
  cases x with
  | nx ρ S' => exact fun b σ' e y s en => n _ _ (h b σ' e y s en)
  | brk ρ S' => exact fun c σ' e y s en => b _ _ (h c σ' e y s en)
  | cnt ρ S' => exact fun b σ' e y s en => c _ _ (h b σ' e y s en)
  | ret m S' => exact fun b v e y s q => r _ _ (h b v e y s q)
  | exn e ρ S' => exact h
  | stuck => exact h
end
section
variable {X : Cx} {W : WX}
def sSeq (g h : XS) : XS := fun ρ S => (g ρ S).seq h
def sNil : XS := fun ρ S => .nx ρ S
theorem qss_nil : QSs X W [] sNil := by
  refine PSs.weak pss_nil ?_
  rintro D σ H ⟨N, a, ρ, ⟨rfl, sr, en⟩, h⟩
  exact h a σ rfl (.refl a) sr en
theorem qss_cons {st : Stmt} {rest : List Stmt} {g h : XS} (h1 : QS X W st g) (h2 : QSs X W rest h) : QSs X W (st :: rest) (sSeq g h) := by
  refine PSs.weak (pss_cons h1 h2) ?_
  rintro D σ H ⟨N, a, ρ, ⟨rfl, sr, en⟩, h⟩
  refine ⟨N, a, ρ, ⟨rfl, sr, en⟩, (PostS.seq_out h).mono ?_ (fun _ _ h => h) (fun _ _ h => h) (fun _ _ h => h)⟩
  rintro σ' H' ⟨b, ρ', r, x, p⟩
  exact ⟨N, b, ρ', r, p⟩
theorem qss_one {st : Stmt} {g : XS} (h : QS X W st g) : QSs X W [st] g := pss_one h
def sNever : XS := fun _ _ => .stuck
theorem qs_never {st : Stmt} : QS X W st sNever := PS.weak ps_never fun D σ H ⟨_, _, _, _, h⟩ => h.elim
theorem qss_never {sts : List Stmt} : QSs X W sts sNever := PSs.weak pss_never fun D σ H ⟨_, _, _, _, h⟩ => h.elim
theorem qs_pass {pos : Pos} : QS X W (.Pass pos) sNil := by
  refine PS.weak ps_pass ?_
  rintro D σ H ⟨N, a, ρ, ⟨rfl, sr, en⟩, h⟩
  exact h a σ rfl (.refl a) sr en
def sCont : XS := fun ρ S => .cnt ρ S
theorem qs_continue {pos : Pos} : QS X W (.Continue pos) sCont := by
  refine PS.weak ps_continue ?_
  rintro D σ H ⟨N, a, ρ, ⟨rfl, sr, en⟩, h⟩
  exact h a σ rfl (.refl a) sr en
def sBrk : XS := fun ρ S => .brk ρ S
theorem qs_break {pos : Pos} : QS X W (.Break pos) sBrk := by
  refine PS.weak ps_break ?_
  rintro D σ H ⟨N, a, ρ, ⟨rfl, sr, en⟩, h⟩
  exact h a σ rfl (.refl a) sr en
def sRet (f : XE) : XS := fun ρ S => (f ρ S).thn ρ fun m S1 => .ret m S1
theorem qs_ret {e : Expr} {pos : Pos} {f : XE} (he : QE X W e f) : QS X W (.Return (some e) pos) (sRet f) := by
  refine PS.weak (ps_ret he) ?_
  rintro D σ H ⟨N, a, ρ, ⟨rfl, sr, en⟩, h⟩
  refine ⟨N, a, ρ, ⟨rfl, sr, en⟩, (PostS.thn_out (rel := MR X.K X.mg N) en h).mono ?_⟩
  rintro v H1 ⟨b, m, rfl, x, sb, r, h1⟩
  exact h1 b v rfl (.refl b) sb r
def sRetN : XS := fun _ S => .ret (.val .non) S
theorem qs_retN {pos : Pos} : QS X W (.Return none pos) sRetN := by
  refine PS.weak ps_retN ?_
  rintro D σ H ⟨N, a, ρ, ⟨rfl, sr, en⟩, h⟩
  exact h a .non rfl (.refl a) sr VR.non
def sExpr (f : XE) : XS := fun ρ S => (f ρ S).thn ρ fun _ S1 => .nx ρ S1
theorem qs_expr {e : Expr} {pos : Pos} {f : XE} (he : QE X W e f) (hs : swapsWith e none pos.line X.env = pure false := by rfl) : QS X W (.Expr e pos) (sExpr f) := by
  refine PS.weak (ps_expr he hs) ?_
  rintro D σ H ⟨N, a, ρ, ⟨rfl, sr, en⟩, h⟩
  refine ⟨N, a, ρ, ⟨rfl, sr, en⟩, (PostS.thn_out (rel := MR X.K X.mg N) en h).mono ?_⟩
  rintro v H1 ⟨b, m, rfl, x, sb, r, h1⟩
  exact h1 b σ rfl (.refl b) sb (en.ext x)
theorem qs_doc {x j pos pos'} : QS X W (.Expr (.Constant (.str x) j pos) pos') sNil := by
  refine PS.weak ps_doc ?_
  rintro D σ H ⟨N, a, ρ, ⟨rfl, sr, en⟩, h⟩
  exact h a σ rfl (.refl a) sr en
def sIf (t : XT) (g h : XS) : XS := fun ρ S => (t ρ S).thn ρ fun b S1 => match b with
  | true => g ρ S1
  | false => h ρ S1
theorem qs_if {c : Expr} {a b : List Stmt} {pos : Pos} {t : XT} {g h : XS} (hc : QT X W c t) (ha : QSs X W a g) (hb : QSs X W b h) : QS X W (.If c a b pos) (sIf t g h) := by
  refine PS.weak (ps_if hc ha hb) ?_
  rintro D σ H ⟨N, a, ρ, ⟨rfl, sr, en⟩, h⟩
  refine ⟨N, a, ρ, ⟨rfl, sr, en⟩, (PostS.thn_out (rel := RelB) en h).mono ?_⟩
  rintro v H1 ⟨b, m, rfl, x, sb, r, h1⟩
  cases r
  cases v with
  | true => exact iteT ⟨N, b, ρ, ⟨rfl, sb, en.ext x⟩, h1⟩
  | false => exact iteF ⟨N, b, ρ, ⟨rfl, sb, en.ext x⟩, h1⟩

/-! ### targets -/
abbrev XG := Mv → XS
def IG (K : PySem.W.Frag) (mg : Str → Option Value) (W : WX) (t : XG) : TG := fun v σ H Q => ∃ N a ρ m, Rd3 K mg N a ρ σ H ∧ MR K mg N a m v ∧ PostS K mg N a W { nx := Q, rt := fun _ _ => False } (t m ρ a.S)
abbrev QG (X : Cx) (W : WX) (e : Expr) (t : XG) : Prop := PG X e (IG X.K X.mg W t)
theorem PG.weak {X : Cx} {e : Expr} {t u : TG} (h : PG X e t) (w : ∀ v σ H Q, u v σ H Q → t v σ H Q) : PG X e u := ⟨fun pins s σ H v u Q I r q => h.run pins s σ H v u Q I r (w _ _ _ _ q)⟩
def tgName (i : Nat) : XG := fun m ρ S => .nx (ρ.set i (some m)) S
theorem qg_name {i : Nat} {x : Str} {pos : Pos} (hN : X.N.Nodup) (hi : X.N[i]? = some x := by rfl) (hx : Loc X.env.scope x := by first | exact .inl rfl | exact .inr rfl) (hf : X.fn x = true ∨ X.env.scope.names.lookup x = some .local := by first | exact .inl rfl | exact .inr rfl) : QG X W (.Name x pos) (tgName i) := by
  refine PG.weak (pg_name hN hi hx hf) ?_
  rintro v σ H Q ⟨N, a, ρ, m, ⟨rfl, sr, en⟩, r, h⟩
  exact h a _ rfl (.refl a) sr (en.set i r)
def IGs (K : PySem.W.Frag) (mg : Str → Option Value) (W : WX) (t : List Mv → XS) : TGs := fun v σ H Q => ∃ N a ρ m, Rd3 K mg N a ρ σ H ∧ Paired (MR K mg N a) m v ∧ PostS K mg N a W { nx := Q, rt := fun _ _ => False } (t m ρ a.S)
theorem PGs.weak {X : Cx} {e : List Expr} {t u : TGs} (h : PGs X e t) (w : ∀ v σ H Q, u v σ H Q → t v σ H Q) : PGs X e u := ⟨fun pins s σ H v u Q I r q => h.run pins s σ H v u Q I r (w _ _ _ _ q)⟩
def tgsNil : List Mv → XS := fun ms ρ S => match ms with
  | [] => .nx ρ S
  | _ => .stuck
def tgsCons (t : XG) (u : List Mv → XS) : List Mv → XS := fun ms ρ S => match ms with
  | m :: r => (t m ρ S).seq fun ρ1 S1 => u r ρ1 S1
  | _ => .stuck
theorem qgs_nil : PGs X [] (IGs X.K X.mg W tgsNil) := by
  refine PGs.weak pgs_nil ?_
  rintro v σ H Q ⟨N, a, ρ, m, ⟨rfl, sr, en⟩, r, h⟩
  cases r with
  | nil => exact ⟨rfl, h a _ rfl (.refl a) sr en⟩
  | cons _ _ => exact h.elim
theorem qgs_cons {e : Expr} {es : List Expr} {t : XG} {u : List Mv → XS} (h1 : QG X W e t) (h2 : PGs X es (IGs X.K X.mg W u)) (hs : (assignEach (e :: es) X.env).map (·.2) = assign e X.env :: (assignEach es X.env).map (·.2) := by rfl) : PGs X (e :: es) (IGs X.K X.mg W (tgsCons t u)) := by
  refine PGs.weak (pgs_cons h1 h2 hs) ?_
  rintro vv σ H Q ⟨N, a, ρ, mm, ⟨rfl, sr, en⟩, r, h⟩
  cases r with
  | nil => exact h.elim
  | cons r1 r2 =>
    refine ⟨_, _, rfl, N, a, ρ, _, ⟨rfl, sr, en⟩, r1, (PostS.seq_out h).mono ?_ (fun _ _ z => z.elim) (fun _ _ z => z.elim) fun _ _ z => z.elim⟩
    rintro σ' H' ⟨b, ρ', rd, x, p⟩
    exact ⟨N, b, ρ', _, rd, MRs.ext x r2, p⟩
def tgTup (n : Nat) (u : List Mv → XS) : XG := fun m ρ S => match m with
  | .val (.tup ds) => if ds.length = n then u (ds.map .val) ρ S else .stuck
  | _ => .stuck
theorem qg_tup {es : List Expr} {pos : Pos} {n : Nat} {u : List Mv → XS} {k1} (hc : X.calm = true) (h : PGs X es (IGs X.K X.mg W u)) (hn : (assignEach es X.env).length = n := by rfl) (hst : (assignEach es X.env).findIdx? (·.1) = none := by rfl) : QG X W (.Tuple es k1 pos) (tgTup n u) := by
  refine PG.weak (pg_tup hc h hn hst) ?_
  rintro v σ H Q ⟨N, a, ρ, m, ⟨rfl, sr, en⟩, r, h⟩
  unfold tgTup at h
  split at h
  · rename_i ds
    split at h
    · rename_i hl
      obtain ⟨p, ws, e, hs, t⟩ := MR.tup r
      exact ⟨p, ws, e, hs, by rw [← t.length]; exact hl, N, a, ρ, ds.map .val, ⟨rfl, sr, en⟩, VRs.paired t, h⟩
    · exact h.elim
  · exact h.elim
/-- a store to o[i], by values -/
def SetOk (K : PySem.W.Frag) (mg : Str → Option Value) (r : TSet) (F : Mv → Mv → Mv → Sto → Rz Unit) : Prop :=
  ∀ (N : Addr → Prop) (a : S3) (o i m : Mv) (v w x : V) (W : XK) (Q : Hp → Prop), SR K mg N a → MR K mg N a o v → MR K mg N a i w → MR K mg N a m x → Post (fun _ (_ _ : Unit) => True) K mg N a W (fun _ => Q) (F o i m a.S) → r v w x a.H Q
def tgSub (F : Mv → Mv → Mv → Sto → Rz Unit) (fo fi : XE) : XG := fun m ρ S => (fo ρ S).thn ρ fun o S1 => (fi ρ S1).thn ρ fun i S2 => (F o i m S2).thn ρ fun _ S3 => .nx ρ S3
theorem qg_sub {o i : Expr} {pos : Pos} {fo fi : XE} {r : TSet} {F : Mv → Mv → Mv → Sto → Rz Unit} (hs : PSet X r ∧ SetOk X.K X.mg r F) (ho : QE X W o fo) (hi : QE X W i fi)
    (ha : ∀ v, assign (.Subscript o i pos) X.env v = (do
      let ov ← holding [v] (eval o X.env)
      let iv ← holding [v, ov] (eval i X.env)
      standAt pos
      holding [v, ov, iv] (setItem ov iv v)
      release [v, ov, iv] []) := by intro _; rfl) : QG X W (.Subscript o i pos) (tgSub F fo fi) := by
  refine PG.weak (pg_sub ho hi hs.1 ha) ?_
  rintro v σ H Q ⟨N, a, ρ, m, ⟨rfl, sr, en⟩, r, h⟩
  refine ⟨N, a, ρ, ⟨rfl, sr, en⟩, (PostS.thn_out (rel := MR X.K X.mg N) en h).mono ?_⟩
  rintro ov H1 ⟨b, mo, rfl, x, sb, ro, h1⟩
  refine ⟨N, b, ρ, ⟨rfl, sb, en.ext x⟩, (PostS.thn_out (rel := MR X.K X.mg N) (en.ext x) h1).mono ?_⟩
  rintro iv H2 ⟨c, mi, rfl, y, sc, ri, h2⟩
  refine hs.2 N c mo mi m ov iv v _ _ sc (ro.ext y) ri ((r.ext x).ext y) ((PostS.thn_out (rel := fun _ (_ _ : Unit) => True) ((en.ext x).ext y) h2).mono ?_)
  rintro _ H3 ⟨d, _, rfl, z, sd, _, h3⟩
  exact h3 d σ rfl (.refl d) sd (((en.ext x).ext y).ext z)
/-- only what a store may come to -/
def RS.only : RS → RS
  | .nx ρ S => .nx ρ S
  | .exn e ρ S => .exn e ρ S
  | _ => .stuck
@[simp] theorem RS.only_nx (ρ : List (Option Mv)) (S : Sto) : (RS.nx ρ S).only = .nx ρ S := rfl
@[simp] theorem RS.only_exn (e : Exn) (ρ : List (Option Mv)) (S : Sto) : (RS.exn e ρ S).only = .exn e ρ S := rfl
@[simp] theorem RS.only_stuck : RS.stuck.only = .stuck := rfl
theorem PostS.only_out {K : PySem.W.Frag} {mg : Str → Option Value} {N : Addr → Prop} {a : S3} {D : Ends} {x : RS} (h : PostS K mg N a W D x.only) : PostS K mg N a W { nx := D.nx, rt := fun _ _ => False } x := by
  cases x with
  | nx ρ S' => exact h
  | exn e ρ S' => exact h
  | brk ρ S' => exact h.elim
  | cnt ρ S' => exact h.elim
  | ret m S' => exact h.elim
  | stuck => exact h
def sAsg (f : XE) (t : XG) : XS := fun ρ S => (f ρ S).thn ρ fun m S1 => (t m ρ S1).only
theorem qs_asg {tg e : Expr} {pos : Pos} {f : XE} {t : XG} (he : QE X W e f) (hg : QG X W tg t) (hs : swapsWithSole [tg] e pos.line X.env = pure false := by rfl) (hw : swappedStores [tg] e X.env = pure none := by rfl)
    (h1 : (assignEach [tg] X.env).map (·.2) = [assign tg X.env] := by rfl) : QS X W (.Assign [tg] e pos) (sAsg f t) := by
  refine PS.weak (ps_asg he hg hs hw h1) ?_
  rintro D σ H ⟨N, a, ρ, ⟨rfl, sr, en⟩, h⟩
  refine ⟨N, a, ρ, ⟨rfl, sr, en⟩, (PostS.thn_out (rel := MR X.K X.mg N) en h).mono ?_⟩
  rintro v H1 ⟨b, m, rfl, x, sb, r, h1⟩
  exact ⟨N, b, ρ, m, ⟨rfl, sb, en.ext x⟩, r, h1.only_out⟩
def sSet (i : Nat) (f : XE) : XS := fun ρ S => (f ρ S).thn ρ fun m S1 => .nx (ρ.set i (some m)) S1
theorem qs_set {i : Nat} {x : Str} {e : Expr} {pos pos' : Pos} {f : XE} (hN : X.N.Nodup) (he : QE X W e f) (hi : X.N[i]? = some x := by rfl) (hx : Loc X.env.scope x := by first | exact .inl rfl | exact .inr rfl) (hs : swapsWith e (some (.Name x pos')) pos.line X.env = pure false := by rfl) (hf : X.fn x = true ∨ X.env.scope.names.lookup x = some .local := by first | exact .inl rfl | exact .inr rfl) :
    QS X W (.Assign [.Name x pos'] e pos) (sSet i f) := by
  refine PS.weak (ps_set hN hi hx he hs hf) ?_
  rintro D σ H ⟨N, a, ρ, ⟨rfl, sr, en⟩, h⟩
  refine ⟨N, a, ρ, ⟨rfl, sr, en⟩, (PostS.thn_out (rel := MR X.K X.mg N) en h).mono ?_⟩
  rintro v H1 ⟨b, m, rfl, x, sb, r, h1⟩
  exact h1 b _ rfl (.refl b) sb ((en.ext x).set i r)
/-- x op= e -/
def InOk (X : Cx) (op : Operator) (F : Mv → Mv → Sto → Rz Mv) : Prop := ∃ ti, PIp X op ti ∧ BinOk X.K X.mg ti F
def sAug (i : Nat) (F : Mv → Mv → Sto → Rz Mv) (f : XE) : XS := fun ρ S => match ρ[i]? with
  | some (some m) => (f ρ S).thn ρ fun y S1 => (F m y S1).thn ρ fun z S2 => .nx (ρ.set i (some z)) S2
  | _ => .stuck
theorem qs_aug {i : Nat} {x : Str} {e : Expr} {op : Operator} {pos pos' : Pos} {F : Mv → Mv → Sto → Rz Mv} {f : XE} (hN : X.N.Nodup) (hop : InOk X op F) (he : QE X W e f) (hi : X.N[i]? = some x := by rfl) (hx : Loc X.env.scope x := by first | exact .inl rfl | exact .inr rfl) (hf : X.fn x = true ∨ X.env.scope.names.lookup x = some .local := by first | exact .inl rfl | exact .inr rfl) :
    QS X W (.AugAssign (.Name x pos') op e pos) (sAug i F f) := by
  obtain ⟨ti, h1, h2⟩ := hop
  refine PS.weak (ps_aug hN hi hx he h1 hf) ?_
  rintro D σ H ⟨N, a, ρ, ⟨rfl, sr, en⟩, h⟩
  unfold sAug at h
  split at h
  · rename_i m e
    obtain ⟨v, ev, r⟩ := en.2 i m e
    refine ⟨v, ev, N, a, ρ, ⟨rfl, sr, en⟩, (PostS.thn_out (rel := MR X.K X.mg N) en h).mono ?_⟩
    rintro w H1 ⟨b, y, rfl, x, sb, ry, h1⟩
    refine h2 N b m y v w _ _ sb (r.ext x) ry ((PostS.thn_out (rel := MR X.K X.mg N) (en.ext x) h1).mono ?_)
    rintro z H2 ⟨c, mz, rfl, x2, sc, rz, h3⟩
    exact h3 c _ rfl (.refl c) sc (((en.ext x).ext x2).set i rz)
  · exact h.elim

/-! ### loops -/
/-- more is hidden: only what is new -/
structure More (N N' : Addr → Prop) (a : S3) : Prop where
  up : ∀ x, N x → N' x
  new : ∀ x, N' x → N x ∨ a.H x = none
theorem More.refl (N : Addr → Prop) (a : S3) : More N N a := ⟨fun _ h => h, fun _ h => .inl h⟩
theorem Ext.fzN {N N' : Addr → Prop} {a b : S3} (m : More N N' a) (x : Ext a b) : Sub (Fz N a) (Fz N' b) := fun z o h => by
  obtain ⟨h1, h2⟩ := hide_some.mp h
  refine hide_some.mpr ⟨fun q => ?_, x.kp z o h2 fun q => h1 (.inr q)⟩
  rcases q with q | q
  · rcases m.new z q with q | q
    · exact h1 (.inl q)
    · rw [h2] at q; cases q
  · rcases x.fr z q with q | q
    · exact h1 (.inr q)
    · rw [h2] at q; cases q
theorem MR.extN {K : PySem.W.Frag} {mg : Str → Option Value} {N N' : Addr → Prop} {a b : S3} (mo : More N N' a) (x : Ext a b) : ∀ {m : Mv} {v : V}, MR K mg N a m v → MR K mg N' b m v
  | .val _, _, h => VR.mono (x.fzN mo) h
  | .loc k, _, ⟨h, e⟩ => ⟨Nat.lt_of_lt_of_le h x.ln, by rw [e, x.ag k h]⟩
theorem MRs.extN {K : PySem.W.Frag} {mg : Str → Option Value} {N N' : Addr → Prop} {a b : S3} (mo : More N N' a) (x : Ext a b) {ms : List Mv} {vs : List V} (h : Paired (MR K mg N a) ms vs) : Paired (MR K mg N' b) ms vs := Paired.mapP h fun _ _ q => q.extN mo x
theorem EnvR.extN {K : PySem.W.Frag} {mg : Str → Option Value} {N N' : Addr → Prop} {a b : S3} {ρ : List (Option Mv)} {σ : St} (mo : More N N' a) (x : Ext a b) (h : EnvR K mg N a ρ σ) : EnvR K mg N' b ρ σ :=
  ⟨h.1, fun i m e => let ⟨v, e', r⟩ := h.2 i m e; ⟨v, e', r.extN mo x⟩⟩
/-- what is walked: its items, and what of the store must stay while it is walked -/
def Walks (K : PySem.W.Frag) (mg : Str → Option Value) (N : Addr → Prop) (a : S3) (p : List Mv × (Sto → Prop)) (J : It) : Prop :=
  ∀ N' b, More N N' a → Ext a b → SR K mg N' b → p.2 b.S → ∀ i, (p.1.length ≤ i → J.stop i b.H) ∧
    ∀ m, p.1[i]? = some m → J.go i b.H ∧ ∀ x H', J.yld i b.H x H' → ∃ c, c.S = b.S ∧ c.H = H' ∧ Ext b c ∧ SR K mg N' c ∧ MR K mg N' c m x
abbrev XI := List (Option Mv) → Sto → Rz (List Mv × (Sto → Prop))
def II (K : PySem.W.Frag) (mg : Str → Option Value) (W : WX) (f : XI) : TI := fun σ H R => ∃ N a ρ, Rd3 K mg N a ρ σ H ∧ Post (Walks K mg N) K mg N a (fun c d H' => W c d σ H') R (f ρ a.S)
abbrev QI (X : Cx) (W : WX) (tg it : Expr) (f : XI) : Prop := PI X tg it (II X.K X.mg W f)
theorem PI.weak {X : Cx} {tg e : Expr} {t u : TI} (h : PI X tg e t) (w : ∀ σ H Q, u σ H Q → t σ H Q) : PI X tg e u := ⟨fun pins s σ H R I q => h.run pins s σ H R I (w _ _ _ q)⟩
open Classical in
noncomputable def forS (chk : Sto → Prop) (t : XG) (g : XS) : List Mv → XS
  | [], ρ, S => if chk S then .nx ρ S else .stuck
  | m :: ms, ρ, S => if chk S then (t m ρ S).only.seq fun ρ1 S1 => (g ρ1 S1).turn fun ρ2 S2 => forS chk t g ms ρ2 S2 else .stuck
noncomputable def sFor (f : XI) (t : XG) (g : XS) : XS := fun ρ S => (f ρ S).thn ρ fun p S1 => forS p.2 t g p.1 ρ S1
theorem qs_for {tg iter : Expr} {body : List Stmt} {pos : Pos} {f : XI} {t : XG} {g : XS} (hp : PassesOwn (model X.prog X.w) X.A X.env X.xe) (hc : X.calm = true) (hi : QI X W tg iter f) (hg : QG X W tg t) (hb : QSs X W body g) (hs : ∀ x, foldedSetIterable iter X.env x = pure x := by intro _; rfl) : QS X W (.For tg iter body [] pos) (sFor f t g) := by
  refine PS.weak (ps_for hp hc hi hg hb hs) ?_
  rintro D σ H ⟨N, a, ρ, ⟨rfl, sr, en⟩, h⟩
  refine ⟨N, a, ρ, ⟨rfl, sr, en⟩, (PostS.thn_out (rel := Walks X.K X.mg N) en h).mono ?_⟩
  rintro J H1 ⟨b, p, rfl, x, sb, wk, h1⟩
  obtain ⟨ms, chk⟩ := p
  refine ⟨fun i m σ H => m = ms.length - i ∧ i ≤ ms.length ∧ ∃ c ρ, Rd3 X.K X.mg N c ρ σ H ∧ Ext b c ∧ PostS X.K X.mg N c W D (forS chk t g (ms.drop i) ρ c.S), ⟨_, rfl, Nat.zero_le _, b, ρ, ⟨rfl, sb, en.ext x⟩, .refl b, h1⟩, ?_⟩
  rintro i n σ H ⟨rfl, hi, c, ρ, ⟨rfl, sc, ec⟩, xc, hh⟩
  by_cases hl : i < ms.length
  · have ed : ms.drop i = ms[i] :: ms.drop (i + 1) := (List.drop_eq_getElem_cons hl)
    rw [ed] at hh
    unfold forS at hh
    split at hh
    · rename_i hk
      obtain ⟨_, wk2⟩ := wk N c (.refl N b) xc sc hk i
      obtain ⟨go, wk3⟩ := wk2 ms[i] (List.getElem?_eq_getElem hl)
      refine .inr ⟨go, fun σ' H' => ∃ c ρ, Rd3 X.K X.mg N c ρ σ' H' ∧ Ext b c ∧ PostS X.K X.mg N c W D (forS chk t g (ms.drop (i + 1)) ρ c.S), fun σ' H' q => ⟨ms.length - (i + 1), by omega, rfl, hl, q⟩, fun y H' hy => ?_⟩
      obtain ⟨d, eS, rfl, xd, sd, rm⟩ := wk3 y H' hy
      refine ⟨N, d, ρ, ms[i], ⟨rfl, sd, ec.ext xd⟩, rm, ?_⟩
      rw [eS]
      refine (PostS.seq_out (hh.from_ xd)).only_out.mono ?_ (fun _ _ z => z.elim) (fun _ _ z => z.elim) (fun _ _ z => z.elim)
      rintro σ2 H2 ⟨e, ρ2, ⟨rfl, se, ee⟩, xe, h2⟩
      refine ⟨N, e, ρ2, ⟨rfl, se, ee⟩, (PostS.turn_out h2).mono ?_ (fun _ _ z => z) ?_ (fun _ _ z => z)⟩
      · rintro σ3 H3 ⟨u, ρ3, r3, xu, h3⟩
        exact ⟨u, ρ3, r3, xc.trans (xd.trans (xe.trans xu)), h3⟩
      · rintro σ3 H3 ⟨u, ρ3, r3, xu, h3⟩
        exact ⟨u, ρ3, r3, xc.trans (xd.trans (xe.trans xu)), h3⟩
    · exact hh.elim
  · have e : i = ms.length := by omega
    subst e
    rw [List.drop_length] at hh
    unfold forS at hh
    split at hh
    · rename_i hk
      exact .inl ⟨(wk N c (.refl N b) xc sc hk _).1 (Nat.le_refl _), hh c σ rfl (.refl c) sc ec⟩
    · exact hh.elim
/-- while, with fuel -/
def whileS : Nat → XT → XS → XS
  | 0, _, _, _, _ => .stuck
  | n + 1, c, g, ρ, S => (c ρ S).thn ρ fun b S1 => match b with
    | true => (g ρ S1).turn fun ρ2 S2 => whileS n c g ρ2 S2
    | false => .nx ρ S1
def sWhile (n : Nat) (c : XT) (g : XS) : XS := fun ρ S => whileS n c g ρ S
theorem qs_while (n : Nat) {c : Expr} {body : List Stmt} {pos : Pos} {t : XT} {g : XS} (hp : PassesOwn (model X.prog X.w) X.A X.env X.xe) (hc : QT X W c t) (hb : QSs X W body g) : QS X W (.While c body [] pos) (sWhile n t g) := by
  refine PS.weak (ps_while hp hc hb) ?_
  rintro D σ H ⟨N, a, ρ, r, h⟩
  refine ⟨fun m σ H => ∃ c ρ, Rd3 X.K X.mg N c ρ σ H ∧ PostS X.K X.mg N c W D (whileS m t g ρ c.S), ⟨n, a, ρ, r, h⟩, ?_⟩
  rintro m σ H ⟨c, ρ, ⟨rfl, sc, ec⟩, hh⟩
  cases m with
  | zero => exact (show False from hh).elim
  | succ m =>
    refine ⟨N, c, ρ, ⟨rfl, sc, ec⟩, (PostS.thn_out (rel := RelB) ec (show PostS X.K X.mg N c W D ((t ρ c.S).thn ρ _) from hh)).mono ?_⟩
    rintro v H1 ⟨b, w, rfl, x, sb, rb, h1⟩
    cases rb
    cases v with
    | true =>
      refine iteT ⟨fun σ' H' => ∃ c ρ, Rd3 X.K X.mg N c ρ σ' H' ∧ PostS X.K X.mg N c W D (whileS m t g ρ c.S), fun σ' H' q => ⟨m, Nat.lt_succ_self m, q⟩, ?_⟩
      refine ⟨N, b, ρ, ⟨rfl, sb, ec.ext x⟩, (PostS.turn_out h1).mono ?_ (fun _ _ z => z) ?_ (fun _ _ z => z)⟩
      · rintro σ3 H3 ⟨u, ρ3, r3, xu, h3⟩
        exact ⟨u, ρ3, r3, h3⟩
      · rintro σ3 H3 ⟨u, ρ3, r3, xu, h3⟩
        exact ⟨u, ρ3, r3, h3⟩
    | false => exact iteF (h1 b σ rfl (.refl b) sb (ec.ext x))

/-! ### what may be walked -/
def always : Sto → Prop := fun _ => True
/-- over a sequence -/
def iSeq (k : Sq) (f : XE) : XI := fun ρ S => (f ρ S).bind fun m S1 => match m, seqOf S1 m with
  | .val _, some (k', ms) => match k, k' with
    | .l, .l => .ok (ms, always) S1
    | .t, .t => .ok (ms, always) S1
    | _, _ => .stuck
  | .loc n, some (k', ms) => match k, k' with
    | .l, .l => .ok (ms, fun S => S[n]? = some (.lst ms)) S1
    | _, _ => .stuck
  | _, _ => .stuck
section
variable {K : PySem.W.Frag} {mg : Str → Option Value} {N : Addr → Prop}
theorem paired_at {α β : Type} {F : α → β → Prop} : ∀ {xs : List α} {ys : List β}, Paired F xs ys → ∀ {i : Nat} {x : α}, xs[i]? = some x → ∃ y, ys[i]? = some y ∧ F x y
  | _, _, .nil, _, _, h => by simp at h
  | _, _, .cons r _, 0, _, h => by simp at h; subst h; exact ⟨_, rfl, r⟩
  | _, _, .cons _ t, i + 1, _, h => by
    obtain ⟨y, h1, h2⟩ := paired_at t (i := i) (by simpa using h)
    exact ⟨y, by simpa using h1, h2⟩
theorem walks_l {a : S3} {p : Addr} {ms : List Mv} {ws : List V} (h : SqL K (Fz N a) p ws) (t : Paired (MR K mg N a) ms ws) : Walks K mg N a (ms, always) (Itl K p) := by
  intro N' b mo x sb _ i
  have hb : SqL K b.H p ws := Fz.sub.sqL ((x.fzN mo).sqL h)
  have tb := MRs.extN mo x t
  refine ⟨fun hi => ⟨ws, hb, by rw [← paired_len t]; exact hi⟩, fun m hm => ?_⟩
  obtain ⟨w, hw, r⟩ := paired_at tb hm
  refine ⟨⟨ws, w, hb, hw⟩, fun y H' hy => ?_⟩
  obtain ⟨rfl, hy⟩ := hy
  have e : w = y := by
    have := hy ws hb
    rw [hw] at this
    exact Option.some.inj this
  subst e
  exact ⟨b, rfl, rfl, .refl b, sb, r⟩
theorem walks_t {a : S3} {p : Addr} {ms : List Mv} {ws : List V} (h : SqT K (Fz N a) p ws) (t : Paired (MR K mg N a) ms ws) : Walks K mg N a (ms, always) (Itt K p) := by
  intro N' b mo x sb _ i
  have hb : SqT K b.H p ws := Fz.sub.sqT ((x.fzN mo).sqT h)
  have tb := MRs.extN mo x t
  refine ⟨fun hi => ⟨ws, hb, by rw [← paired_len t]; exact hi⟩, fun m hm => ?_⟩
  obtain ⟨w, hw, r⟩ := paired_at tb hm
  refine ⟨⟨ws, w, hb, hw⟩, fun y H' hy => ?_⟩
  obtain ⟨rfl, hy⟩ := hy
  have e : w = y := by
    have := hy ws hb
    rw [hw] at this
    exact Option.some.inj this
  subst e
  exact ⟨b, rfl, rfl, .refl b, sb, r⟩
theorem walks_loc {a : S3} {n : Nat} {ms : List Mv} (hn : n < a.S.length) : Walks K mg N a (ms, fun S => S[n]? = some (.lst ms)) (Itl K (a.i n)) := by
  intro N' b mo x sb hc i
  obtain ⟨ws, hw0, t⟩ := sb.at_ n _ hc
  rw [x.ag n hn] at hw0
  have hb : SqL K b.H (a.i n) ws := .of hw0
  refine ⟨fun hi => ⟨ws, hb, by rw [← paired_len t]; exact hi⟩, fun m hm => ?_⟩
  obtain ⟨w, hw, r⟩ := paired_at t hm
  refine ⟨⟨ws, w, hb, hw⟩, fun y H' hy => ?_⟩
  obtain ⟨rfl, hy⟩ := hy
  have e : w = y := by
    have := hy ws hb
    rw [hw] at this
    exact Option.some.inj this
  subst e
  exact ⟨b, rfl, rfl, .refl b, sb, r⟩
end
theorem qi_list {tg l : Expr} {f : XE} (h : QE X W l f) : QI X W tg l (iSeq .l f) := by
  refine PI.weak (pi_list h) ?_
  rintro σ H R ⟨N, a, ρ, ⟨rfl, sr, en⟩, h⟩
  refine ⟨N, a, ρ, ⟨rfl, sr, en⟩, (Post.bind_out (rel := MR X.K X.mg N) h).mono ?_⟩
  rintro v H1 ⟨b, m, rfl, x, sb, r, h1⟩
  cases m with
  | val d =>
    cases d with
    | lst ds =>
      cases r with
      | lst hs t => exact ⟨_, rfl, ⟨_, Fz.sub.sqL hs⟩, h1 b _ rfl (.refl b) sb (walks_l hs (VRs.paired t))⟩
    | _ => exact (show False from h1).elim
  | loc n =>
    obtain ⟨hn, rfl⟩ := r
    cases q : seqOf b.S (.loc n) with
    | none => rw [q] at h1; exact (show False from h1).elim
    | some p =>
      obtain ⟨k', ms⟩ := p
      rw [q] at h1
      have q2 : b.S[n]? = some (.lst ms) ∧ k' = .l := by
        unfold seqOf at q
        simp only at q
        split at q
        · rename_i ms' e
          simp only [Option.some.injEq, Prod.mk.injEq] at q
          obtain ⟨rfl, rfl⟩ := q
          exact ⟨e, rfl⟩
        · cases q
      obtain ⟨q2, rfl⟩ := q2
      obtain ⟨ws, hw, _⟩ := sb.at_ n _ q2
      exact ⟨_, rfl, ⟨ws, .of hw⟩, h1 b _ rfl (.refl b) sb (walks_loc hn)⟩
theorem qi_tup {tg l : Expr} {f : XE} (h : QE X W l f) : QI X W tg l (iSeq .t f) := by
  refine PI.weak (pi_tup h) ?_
  rintro σ H R ⟨N, a, ρ, ⟨rfl, sr, en⟩, h⟩
  refine ⟨N, a, ρ, ⟨rfl, sr, en⟩, (Post.bind_out (rel := MR X.K X.mg N) h).mono ?_⟩
  rintro v H1 ⟨b, m, rfl, x, sb, r, h1⟩
  cases m with
  | val d =>
    cases d with
    | tup ds =>
      cases r with
      | tup hs t => exact ⟨_, rfl, ⟨_, Fz.sub.sqT hs⟩, h1 b _ rfl (.refl b) sb (walks_t hs (VRs.paired t))⟩
    | _ => exact (show False from h1).elim
  | loc n =>
    cases q : seqOf b.S (.loc n) with
    | none => rw [q] at h1; exact (show False from h1).elim
    | some p =>
      obtain ⟨k', ms⟩ := p
      rw [q] at h1
      cases k' <;> exact (show False from h1).elim
/-- over range(..) -/
def rangeL (lo : Int) (n : Nat) : List Mv := (List.range n).map fun i => .val (.int (lo + (i : Nat)))
def iRng1 (g : XA) : XI := fun ρ S => (g ρ S).bind fun ms S1 => match ms with
  | [.val (.int j)] => if -(2 ^ 62) ≤ j ∧ j < 2 ^ 62 then .ok (rangeL 0 j.toNat, always) S1 else .stuck
  | _ => .stuck
def iRng2 (g : XA) : XI := fun ρ S => (g ρ S).bind fun ms S1 => match ms with
  | [.val (.int i), .val (.int j)] => if -(2 ^ 62) ≤ i ∧ i < 2 ^ 62 ∧ -(2 ^ 62) ≤ j ∧ j < 2 ^ 62 then .ok (rangeL i (j - i).toNat, always) S1 else .stuck
  | _ => .stuck
theorem walks_r {K : PySem.W.Frag} {mg : Str → Option Value} {N : Addr → Prop} {a : S3} (lo : Int) (n : Nat) : Walks K mg N a (rangeL lo n, always) (Itr lo n) := by
  intro N' b mo x sb _ i
  refine ⟨fun hi => show n ≤ i by simpa [rangeL] using hi, fun m hm => ?_⟩
  have hi : i < n := by
    have := (List.getElem?_eq_some_iff.mp hm).1
    simpa [rangeL] using this
  refine ⟨hi, fun y H' hy => ?_⟩
  obtain ⟨rfl, rfl⟩ := hy
  have e : m = .val (.int (lo + (i : Nat))) := by
    simp [rangeL, hi] at hm
    exact hm.symm
  subst e
  exact ⟨b, rfl, rfl, .refl b, sb, VR.int⟩
theorem paired1 {α β : Type} {F : α → β → Prop} {x : α} {vs : List β} (h : Paired F [x] vs) : ∃ v, vs = [v] ∧ F x v := by
  cases h with
  | cons r t => cases t; exact ⟨_, rfl, r⟩
theorem paired2 {α β : Type} {F : α → β → Prop} {x y : α} {vs : List β} (h : Paired F [x, y] vs) : ∃ v w, vs = [v, w] ∧ F x v ∧ F y w := by
  cases h with
  | cons r t =>
    obtain ⟨w, rfl, q⟩ := paired1 t
    exact ⟨_, _, rfl, r, q⟩
theorem paired3 {α β : Type} {F : α → β → Prop} {x y z : α} {vs : List β} (h : Paired F [x, y, z] vs) : ∃ v w u, vs = [v, w, u] ∧ F x v ∧ F y w ∧ F z u := by
  cases h with
  | cons r t =>
    obtain ⟨w, u, rfl, q, q2⟩ := paired2 t
    exact ⟨_, _, _, rfl, r, q, q2⟩
theorem qi_range1 {tg a : Expr} {p pos : Pos} {g : XA} (hm : X.mg "range" = none) (ha : QA X W [a] g) (hg : Gl X "range" := by rfl) (hs : starEach [a] X.env = [(false, eval a X.env)] := by rfl) : QI X W tg (.Call (.Name "range" p) [a] [] pos) (iRng1 g) := by
  refine PI.weak (pi_range1 hg hm ha hs) ?_
  rintro σ H R ⟨N, a, ρ, ⟨rfl, sr, en⟩, h⟩
  refine ⟨N, a, ρ, ⟨rfl, sr, en⟩, (Post.bind_out (rel := RelA X.K X.mg N) h).mono ?_⟩
  rintro v H1 ⟨b, m, rfl, x, sb, r, h1⟩
  split at h1
  · rename_i j
    obtain ⟨w, rfl, r1⟩ := paired1 r
    have e := MR.int r1
    subst e
    split at h1
    · rename_i hj
      exact ⟨j, rfl, hj.1, hj.2, h1 b _ rfl (.refl b) sb (walks_r _ _)⟩
    · exact h1.elim
  · exact h1.elim
theorem qi_range2 {tg a c : Expr} {p pos : Pos} {g : XA} (hm : X.mg "range" = none) (ha : QA X W [a, c] g) (hg : Gl X "range" := by rfl) (hs : starEach [a, c] X.env = [(false, eval a X.env), (false, eval c X.env)] := by rfl) (hs2 : starEach [c] X.env = [(false, eval c X.env)] := by rfl) : QI X W tg (.Call (.Name "range" p) [a, c] [] pos) (iRng2 g) := by
  refine PI.weak (pi_range2 hg hm ha hs hs2) ?_
  rintro σ H R ⟨N, a, ρ, ⟨rfl, sr, en⟩, h⟩
  refine ⟨N, a, ρ, ⟨rfl, sr, en⟩, (Post.bind_out (rel := RelA X.K X.mg N) h).mono ?_⟩
  rintro v H1 ⟨b, m, rfl, x, sb, r, h1⟩
  split at h1
  · rename_i i j
    obtain ⟨w, u, rfl, r, r2⟩ := paired2 r
    have e := MR.int r
    have e2 := MR.int r2
    subst e e2
    split at h1
    · rename_i hj
      exact ⟨i, j, rfl, hj, h1 b _ rfl (.refl b) sb (walks_r _ _)⟩
    · exact h1.elim
  · exact h1.elim
end
end MK

/-! MK, part 4: defs, calls, fields, methods, new instances. -/
namespace MK
open PySem L2
/-! ### what a def promises -/
inductive R0 where
  | ok (d : Dv) | exn (e : Exn) | stuck
abbrev PFn := List Dv → R0
abbrev SFn := List Mv → Sto → Rz Mv
def spP (K : PySem.W.Frag) (mg : Str → Option Value) (F : PFn) : Sp := fun vs H Q E => ∃ (N : Addr → Prop) (ds : List Dv), (∀ b, N b → H b ≠ none) ∧ VRs K mg (hide N H) ds vs ∧ match F ds with
  | .ok d => ∀ H' v, Same H H' → VR K mg (hide N H') d v → Q v H'
  | .exn e => ∀ H' cls dd, Same H H' → ExR K mg (hide N H') e cls dd H' → E cls dd H'
  | .stuck => False
def spS (K : PySem.W.Frag) (mg : Str → Option Value) (F : SFn) : Sp := fun vs H Q E => ∃ (N : Addr → Prop) (a : S3) (ms : List Mv), a.H = H ∧ SR K mg N a ∧ Paired (MR K mg N a) ms vs ∧ Post (MR K mg N) K mg N a E Q (F ms a.S)
def RS.fin : RS → Rz Mv
  | .nx _ S => .ok (.val .non) S
  | .ret m S => .ok m S
  | .exn e _ S => .exn e S
  | _ => .stuck
@[simp] theorem RS.fin_nx (ρ) (S : Sto) : (RS.nx ρ S).fin = .ok (.val .non) S := rfl
@[simp] theorem RS.fin_ret (m) (S : Sto) : (RS.ret m S).fin = .ok m S := rfl
@[simp] theorem RS.fin_exn (e ρ) (S : Sto) : (RS.exn e ρ S).fin = .exn e S := rfl
@[simp] theorem RS.fin_stuck : RS.stuck.fin = .stuck := rfl
/-- a body as a function: n parameters, m slots -/
def fnS (n m : Nat) (g : XS) : SFn := fun ms S => if ms.length = n then (g (ms.map some ++ List.replicate (m - n) none) S).fin else .stuck
/-- a value without places -/
def rfy : Nat → Sto → Mv → Option Dv
  | _, _, .val d => some d
  | 0, _, _ => none
  | n + 1, S, .loc k => match S[k]? with
    | some (.lst ms) => (ms.mapM (rfy n S)).map .lst
    | some (.dK kvs) => (kvs.mapM fun p => (rfy n S p.2).map fun d => (p.1, d)).map .dK
    | some (.dT kvs) => (kvs.mapM fun p => (rfy n S p.2).map fun d => (p.1, d)).map .dT
    | some (.ins c fs) => (fs.mapM fun p => (rfy n S p.2).map fun d => (p.1, d)).map (.ins c)
    | _ => none
def Rz.pure0 : Rz Mv → R0
  | .ok m S => match rfy 8 S m with
    | some d => .ok d
    | none => .stuck
  | .exn e _ => .exn e
  | .stuck => .stuck
/-- a body as a function of plain data -/
def fnP (n m : Nat) (g : XS) : PFn := fun ds => (fnS n m g (ds.map .val) []).pure0
section
variable {K : PySem.W.Frag} {mg : Str → Option Value} {N : Addr → Prop}
theorem fz_hide {a : S3} : Sub (Fz N a) (hide N a.H) := fun x o h => by
  obtain ⟨h1, h2⟩ := hide_some.mp h
  exact hide_some.mpr ⟨fun q => h1 (.inl q), h2⟩
theorem mapM_vrs {F : Hp} {n : Nat} {S : Sto} {a : S3} (ih : ∀ {m : Mv} {v : V} {d : Dv}, MR K mg N a m v → rfy n S m = some d → VR K mg F d v) : ∀ {ms : List Mv} {vs : List V} {ds : List Dv}, Paired (MR K mg N a) ms vs → ms.mapM (rfy n S) = some ds → VRs K mg F ds vs
  | [], _, _, .nil, h => by
    simp at h; subst h; exact .nil
  | m :: ms, _, _, .cons r t, h => by
    simp only [List.mapM_cons] at h
    cases e1 : rfy n S m with
    | none => rw [e1] at h; simp at h
    | some d =>
      cases e2 : ms.mapM (rfy n S) with
      | none => rw [e1, e2] at h; simp at h
      | some ds =>
        rw [e1, e2] at h
        simp at h
        subst h
        exact .cons (ih r e1) (mapM_vrs ih t e2)
theorem mapM_vrp {κ κ' : Type} {j : κ → κ'} {F : Hp} {n : Nat} {S : Sto} {a : S3} (ih : ∀ {m : Mv} {v : V} {d : Dv}, MR K mg N a m v → rfy n S m = some d → VR K mg F d v) : ∀ {ms : List (κ × Mv)} {vs : List (κ' × V)} {ds : List (κ × Dv)}, Paired (MRp K mg N j a) ms vs → (ms.mapM fun p => (rfy n S p.2).map fun d => (p.1, d)) = some ds → VRp K mg F j ds vs
  | [], _, _, .nil, h => by
    simp at h; subst h; exact .nil
  | (k, m) :: ms, _, _, .cons (b := (k', v)) ⟨e, r⟩ t, h => by
    simp only [List.mapM_cons] at h
    cases e1 : rfy n S m with
    | none => rw [e1] at h; simp at h
    | some d =>
      cases e2 : (ms.mapM fun p => (rfy n S p.2).map fun d => (p.1, d)) with
      | none => rw [e1, e2] at h; simp at h
      | some ds =>
        rw [e1, e2] at h
        simp at h
        subst h
        cases (show j k = k' from e)
        exact .cons (ih r e1) (mapM_vrp ih t e2)
theorem rfy_ok {a : S3} (sr : SR K mg N a) : ∀ (n : Nat) {m : Mv} {v : V} {d : Dv}, MR K mg N a m v → rfy n a.S m = some d → VR K mg (hide N a.H) d v
  | n, .val d', _, d, r, e => by
    have e : d' = d := by cases n <;> exact Option.some.inj e
    subst e
    exact VR.mono fz_hide r
  | 0, .loc k, _, _, r, e => by cases e
  | n + 1, .loc k, _, _, r, e => by
    obtain ⟨hk, rfl⟩ := r
    unfold rfy at e
    have own : ∀ {ob : Ob}, a.S[k]? = some ob → ob ≠ .dead → ∀ {o}, a.H (a.i k) = some o → hide N a.H (a.i k) = some o := fun q nd _ h => hide_some.mpr ⟨fun hn => sr.nn _ ⟨k, _, q, nd, rfl⟩ hn, h⟩
    split at e
    · rename_i ms q
      obtain ⟨ws, h, t⟩ := sr.at_ k _ q
      cases e2 : ms.mapM (rfy n a.S) with
      | none => rw [e2] at e; cases e
      | some ds =>
        rw [e2] at e
        cases e
        exact .lst (SqL.of (own q (by simp) h)) (mapM_vrs (fun r e => rfy_ok sr n r e) t e2)
    · rename_i ms q
      obtain ⟨ws, h, t⟩ := sr.at_ k _ q
      cases e2 : (ms.mapM fun p => (rfy n a.S p.2).map fun d => (p.1, d)) with
      | none => rw [e2] at e; cases e
      | some ds =>
        rw [e2] at e
        cases e
        exact .dK (.inl (own q (by simp) h)) (mapM_vrp (fun r e => rfy_ok sr n r e) t e2)
    · rename_i ms q
      obtain ⟨ws, h, t⟩ := sr.at_ k _ q
      cases e2 : (ms.mapM fun p => (rfy n a.S p.2).map fun d => (p.1, d)) with
      | none => rw [e2] at e; cases e
      | some ds =>
        rw [e2] at e
        cases e
        exact .dT (.inl (own q (by simp) h)) (mapM_vrp (fun r e => rfy_ok sr n r e) t e2)
    · rename_i c ms q
      obtain ⟨C, dx, ws, h, hm, t⟩ := sr.at_ k _ q
      cases e2 : (ms.mapM fun p => (rfy n a.S p.2).map fun d => (p.1, d)) with
      | none => rw [e2] at e; cases e
      | some ds =>
        rw [e2] at e
        cases e
        exact .ins (own q (by simp) h) hm (mapM_vrp (fun r e => rfy_ok sr n r e) t e2)
    · cases e
theorem same_of {a b : S3} (hS : a.S = []) (x : Ext a b) : Same a.H b.H := fun z o h => x.kp z o h fun ⟨k, ob, e, _⟩ => by rw [hS] at e; simp at e
/-- a state with an empty store -/
theorem sr_nil {H : Hp} (h : ∀ b, N b → H b ≠ none) (i : Nat → Addr) : SR K mg N ⟨i, [], H⟩ := ⟨h, fun b ⟨k, ob, e, _⟩ => by simp at e, fun j k oj ok e => by simp at e, fun k ob e => by simp at e⟩
theorem fz_nil {H : Hp} {i : Nat → Addr} : Sub (hide N H) (Fz N ⟨i, [], H⟩) := fun x o h => by
  obtain ⟨h1, h2⟩ := hide_some.mp h
  refine hide_some.mpr ⟨fun q => ?_, h2⟩
  rcases q with q | ⟨k, ob, e, _⟩
  · exact h1 q
  · simp at e
theorem ExR.mono {F F' : Hp} {e : Exn} {cls : Value} {d : Option Addr} {H : Hp} (x : Sub F F') (h : ExR K mg F e cls d H) : ExR K mg F' e cls d H := by
  obtain ⟨C, h1, h2, h3⟩ := h
  refine ⟨C, h1, h2, ?_⟩
  rcases h3 with h3 | ⟨dd, ws, e1, e2, t⟩
  · exact .inl h3
  · exact .inr ⟨dd, ws, e1, x _ _ e2, t.mono x⟩
theorem ExR.H {F : Hp} {e : Exn} {cls : Value} {d : Option Addr} {H H' : Hp} (h : ExR K mg F e cls d H) : ExR K mg F e cls d H' := h
/-- the slots at a def's entry -/
theorem env_start {a : S3} {ms : List Mv} {vs : List V} (r : Paired (MR K mg N a) ms vs) (n m : Nat) (hn : ms.length = n) : EnvR K mg N a (ms.map some ++ List.replicate (m - n) none) (vs.map some ++ List.replicate (m - n) none) := by
  have hl := paired_len r
  refine ⟨by simp [hl], fun i x e => ?_⟩
  by_cases hi : i < ms.length
  · rw [List.getElem?_append_left (by simpa using hi)] at e
    rw [List.getElem?_append_left (by simpa [← hl] using hi)]
    rw [List.getElem?_map] at e ⊢
    cases q : ms[i]? with
    | none => rw [q] at e; cases e
    | some y =>
      rw [q] at e
      cases e
      obtain ⟨v, h1, h2⟩ := paired_at r q
      exact ⟨v, by rw [h1]; rfl, h2⟩
  · rw [List.getElem?_append_right (by simpa using Nat.le_of_not_lt hi)] at e
    rw [List.getElem?_replicate] at e
    split at e <;> cases e
end
section
variable {P : Program} {w : World} {K : PySem.W.Frag} {mg : Str → Option Value} {base : Heap}
theorem postS_fin {N : Addr → Prop} {a : S3} {E : XK} {Q : VK} {r : RS} (h : Post (MR K mg N) K mg N a E Q r.fin) : PostS K mg N a (fun c d _ H => E c d H) { nx := fun _ H' => Q .non H', rt := Q } r := by
  cases r with
  | nx ρ S => exact fun b σ' e x s en => h b .non e x s VR.non
  | ret m S => exact h
  | exn e ρ S => exact fun b σ' cls d e x s en q => h b cls d e x s q
  | brk ρ S => exact h.elim
  | cnt ρ S => exact h.elim
  | stuck => exact h
abbrev WD (E : XK) : WX := fun c d _ H => E c d H
theorem ok_S {x qual : Str} {st : Stmt} {f : Addr} {fd : FuncData} {Ns ps : List Str} {k : Nat} {g : XS} (F : Fun K x qual st f fd) (S : FnScope Ns ps (defScope st))
    (hb : ∀ (cdv : Value) (A : Around) (outer : List Env) (s : Shared) (H : Hp) (E : XK), Room k (A.deeper (PyProof.Rows.envOfC qual (defScope st) s.heap.objs.size f cdv)) →
      QSs (cxOf (L2.CX P w) P w K mg base Ns qual (defScope st) f cdv A outer s H E) (WD E) (defBody st) g) :
    FnOk P w K mg base (L2.CX P w) (k + 1) f fd ps (spS K mg (fnS ps.length Ns.length g)) := by
  refine F.okX S (fun vs H Q E h => ?_) fun cdv A outer s H vs Q E hr h => ⟨_, hb cdv A outer s H E hr, ?_⟩
  · obtain ⟨N, a, ms, _, _, r, h⟩ := h
    unfold fnS at h
    split at h
    · rename_i hl
      rw [← paired_len r]; exact hl
    · exact h.elim
  · obtain ⟨N, a, ms, rfl, sr, r, h⟩ := h
    unfold fnS at h
    split at h
    · rename_i hl
      refine ⟨N, a, _, ⟨rfl, sr, ?_⟩, postS_fin h⟩
      have := env_start r ps.length Ns.length hl
      unfold L2.start
      rw [← paired_len r, hl]
      exact this
    · exact h.elim
/-- from a function on stores to one on plain data -/
theorem spP_of {F : SFn} {vs : List V} {H : Hp} {Q : VK} {E : XK} (h : spP K mg (fun ds => (F (ds.map .val) []).pure0) vs H Q E) : spS K mg F vs H Q E := by
  obtain ⟨N, ds, hN, r, h⟩ := h
  refine ⟨N, ⟨fun _ => 0, [], H⟩, ds.map .val, rfl, sr_nil hN _, VRs.paired (r.mono fz_nil), ?_⟩
  show Post _ _ _ _ _ _ _ (F (ds.map .val) [])
  replace h : (match (F (ds.map .val) []).pure0 with
    | .ok d => ∀ H' v, Same H H' → VR K mg (hide N H') d v → Q v H'
    | .exn e => ∀ H' cls dd, Same H H' → ExR K mg (hide N H') e cls dd H' → E cls dd H'
    | .stuck => False) := h
  cases q : F (ds.map .val) [] with
  | ok m S' =>
    rw [q] at h
    intro b v e x s rm
    unfold Rz.pure0 at h
    simp only at h
    cases q2 : rfy 8 S' m with
    | none => rw [q2] at h; exact h.elim
    | some d =>
      rw [q2] at h
      exact h b.H v (same_of rfl x) (rfy_ok s 8 rm (by rw [e]; exact q2))
  | exn e S' =>
    rw [q] at h
    intro b cls d _ x s q
    exact h b.H cls d (same_of rfl x) (q.mono fz_hide)
  | stuck => rw [q] at h; exact h
theorem ok_P {x qual : Str} {st : Stmt} {f : Addr} {fd : FuncData} {Ns ps : List Str} {k : Nat} {g : XS} (F : Fun K x qual st f fd) (S : FnScope Ns ps (defScope st))
    (hb : ∀ (cdv : Value) (A : Around) (outer : List Env) (s : Shared) (H : Hp) (E : XK), Room k (A.deeper (PyProof.Rows.envOfC qual (defScope st) s.heap.objs.size f cdv)) →
      QSs (cxOf (L2.CX P w) P w K mg base Ns qual (defScope st) f cdv A outer s H E) (WD E) (defBody st) g) :
    FnOk P w K mg base (L2.CX P w) (k + 1) f fd ps (spP K mg (fnP ps.length Ns.length g)) :=
  (ok_S F S hb).imp fun _ _ _ _ h => spP_of h
/-- the module's def x keeps sp, at level k -/
structure HasFn (P : Program) (w : World) (K : PySem.W.Frag) (mg : Str → Option Value) (base : Heap) (x : Str) (k : Nat) (sp : Sp) : Prop where
  ex : ∃ f fd ps, FnOk P w K mg base (L2.CX P w) k f fd ps sp ∧ mg x = some (.ref f) ∧ PySem.W.keepIn K (.ref f) = true ∧ Binds K fd ps []
theorem HasFn.mono {P : Program} {w : World} {base : Heap} {x : Str} {j k : Nat} {sp : Sp} (h : HasFn P w K mg base x j sp) (l : j ≤ k) : HasFn P w K mg base x k sp := by
  obtain ⟨f, fd, ps, F, r⟩ := h.ex
  exact ⟨f, fd, ps, F.mono l, r⟩
end
section
variable {X : Cx} {W : WX}
/-! ### calls of the module's defs -/
def liftP : R0 → Sto → Rz Mv
  | .ok d, S => .ok (.val d) S
  | .exn e, S => .exn e S
  | .stuck, _ => .stuck
@[simp] theorem liftP_ok (d : Dv) (S : Sto) : liftP (.ok d) S = .ok (.val d) S := rfl
@[simp] theorem liftP_exn (d : Exn) (S : Sto) : liftP (.exn d) S = .exn d S := rfl
def callP (G : PFn) (ms : List Mv) (S : Sto) : Rz Mv := match vals ms with
  | some ds => liftP (G ds) S
  | none => .stuck
theorem callP_ok {K : PySem.W.Frag} {mg : Str → Option Value} {N : Addr → Prop} {a : S3} {G : PFn} {ms : List Mv} {vs : List V} {W : XK} {Q : VK} (sr : SR K mg N a) (r : Paired (MR K mg N a) ms vs) (h : Post (MR K mg N) K mg N a W Q (callP G ms a.S)) : spP K mg G vs a.H Q W := by
  unfold callP at h
  cases q : vals ms with
  | none => rw [q] at h; exact h.elim
  | some ds =>
    rw [q] at h
    replace h : Post (MR K mg N) K mg N a W Q (liftP (G ds) a.S) := h
    rw [vals_some q] at r
    refine ⟨fun b => N b ∨ Own a b, ds, fun b hb => ?_, paired_vals r, ?_⟩
    · rcases hb with hb | hb
      · exact sr.nm b hb
      · exact sr.lt hb
    · cases q2 : G ds with
      | ok d =>
        rw [q2] at h
        intro H' v s hv
        obtain ⟨ex, sr'⟩ := grown sr s
        exact h ⟨a.i, a.S, H'⟩ v rfl ex sr' hv
      | exn e =>
        rw [q2] at h
        intro H' cls d s hv
        obtain ⟨ex, sr'⟩ := grown sr s
        exact h ⟨a.i, a.S, H'⟩ cls d rfl ex sr' hv
      | stuck => rw [q2] at h; exact h
theorem callS_ok {K : PySem.W.Frag} {mg : Str → Option Value} {N : Addr → Prop} {a : S3} {G : SFn} {ms : List Mv} {vs : List V} {W : XK} {Q : VK} (sr : SR K mg N a) (r : Paired (MR K mg N a) ms vs) (h : Post (MR K mg N) K mg N a W Q (G ms a.S)) : spS K mg G vs a.H Q W := ⟨N, a, ms, rfl, sr, r, h⟩
/-- what kind of promise a def's function makes -/
def SpOk (K : PySem.W.Frag) (mg : Str → Option Value) (sp : Sp) (F : SFn) : Prop := ∀ (N : Addr → Prop) (a : S3) (ms : List Mv) (vs : List V) (W : XK) (Q : VK), SR K mg N a → Paired (MR K mg N a) ms vs → Post (MR K mg N) K mg N a W Q (F ms a.S) → sp vs a.H Q W
theorem spOkP {K : PySem.W.Frag} {mg : Str → Option Value} (G : PFn) : SpOk K mg (spP K mg G) (callP G) := fun _ _ _ _ _ _ => callP_ok
theorem spOkS {K : PySem.W.Frag} {mg : Str → Option Value} (G : SFn) : SpOk K mg (spS K mg G) G := fun _ _ _ _ _ _ => callS_ok
theorem qe_call {k : Nat} {x : Str} {p pos : Pos} {e : Expr} {es : List Expr} {g : XA} {sp : Sp} {F : SFn} (h : HasFn X.prog X.w X.K X.mg X.base x k sp) (so : SpOk X.K X.mg sp F) (hr : Room k X.A) (tk : Takes X W) (ha : QA X W (e :: es) g) (hg : Gl X x := by rfl) (hdb : (x == ("__debug__" : Str)) = false := by decide)
    (he : starEach (e :: es) X.env = (false, eval e X.env) :: starEach es X.env := by rfl) (hpl : (backTo pos (starEach es X.env)).any (·.1) = false := by rfl) : QE X W (.Call (.Name x p) (e :: es) [] pos) (eMk F g) := by
  obtain ⟨f, fd, ps, FO, hm, hk, hb⟩ := h.ex
  refine PE.weak (pe_callS FO hr hg hm hk hb (fun σ => passAt tk σ) ha hdb he hpl) ?_
  rintro σ H Q ⟨N, a, ρ, ⟨rfl, sr, en⟩, h⟩
  refine ⟨N, a, ρ, ⟨rfl, sr, en⟩, (Post.bind_out (rel := RelA X.K X.mg N) h).mono ?_⟩
  rintro v H1 ⟨b, m, rfl, x, sb, rm, h1⟩
  exact so N b m v _ Q sb rm h1

/-! ### instances -/
def insOf (S : Sto) : Mv → Option (Str × List (Str × Mv))
  | .val (.ins c fs) => some (c, fs.map fun p => (p.1, .val p.2))
  | .loc k => match S[k]? with
    | some (.ins c fs) => some (c, fs)
    | _ => none
  | _ => none
theorem VRp.paired {K : PySem.W.Frag} {mg : Str → Option Value} {N : Addr → Prop} {κ κ' : Type} {j : κ → κ'} {a : S3} : ∀ {ds : List (κ × Dv)} {vs : List (κ' × V)}, VRp K mg (Fz N a) j ds vs → Paired (MRp K mg N j a) (ds.map fun p => (p.1, Mv.val p.2)) vs
  | _, _, .nil => .nil
  | _, _, .cons h t => .cons ⟨rfl, h⟩ (VRp.paired t)
theorem insOf_ok {K : PySem.W.Frag} {mg : Str → Option Value} {N : Addr → Prop} {a : S3} {m : Mv} {v : V} {c : Str} {fs : List (Str × Mv)} (sr : SR K mg N a) (r : MR K mg N a m v) (e : insOf a.S m = some (c, fs)) : ∃ p C dx ws, v = .ref p ∧ a.H p = some (.ins C dx ws) ∧ mg c = some (.ref C) ∧ Paired (MRp K mg N id a) fs ws := by
  cases m with
  | val d =>
    cases d with
    | ins c' fs' =>
      cases e
      cases r with
      | ins h hm t => exact ⟨_, _, _, _, rfl, Fz.sub _ _ h, hm, VRp.paired t⟩
    | _ => cases e
  | loc k =>
    obtain ⟨hk, rfl⟩ := r
    replace e : (match a.S[k]? with | some (.ins c fs) => some (c, fs) | _ => none) = some (c, fs) := e
    split at e
    · rename_i c' fs' q
      cases e
      obtain ⟨C, dx, ws, h, hm, t⟩ := sr.at_ k _ q
      exact ⟨_, C, dx, ws, rfl, h, hm, t⟩
    · cases e
theorem paired_lookup {K : PySem.W.Frag} {mg : Str → Option Value} {N : Addr → Prop} {a : S3} {f : Str} : ∀ {fs : List (Str × Mv)} {ws : List (Str × V)}, Paired (MRp K mg N id a) fs ws →
    (∀ m, fs.lookup f = some m → ∃ v, ws.lookup f = some v ∧ MR K mg N a m v) ∧ (fs.lookup f = none → ws.lookup f = none)
  | _, _, .nil => ⟨fun _ h => by simp at h, fun _ => rfl⟩
  | (n, m) :: fs, (n', v) :: ws, .cons ⟨e, r⟩ t => by
    obtain rfl : n = n' := e
    simp only [List.lookup]
    cases q : f == n with
    | true => exact ⟨fun m' h => ⟨v, rfl, by cases h; exact r⟩, fun h => by cases h⟩
    | false => exact paired_lookup t
def putM (f : Str) (m : Mv) : List (Str × Mv) → List (Str × Mv)
  | [] => [(f, m)]
  | p :: r => if p.1 = f then (f, m) :: r else p :: putM f m r
theorem paired_put {K : PySem.W.Frag} {mg : Str → Option Value} {N : Addr → Prop} {a : S3} {f : Str} {m : Mv} {v : V} (r : MR K mg N a m v) : ∀ {fs : List (Str × Mv)} {ws : List (Str × V)}, Paired (MRp K mg N id a) fs ws → Paired (MRp K mg N id a) (putM f m fs) (putF f v ws)
  | _, _, .nil => .cons ⟨rfl, r⟩ .nil
  | (n, m') :: fs, (n', v') :: ws, .cons ⟨e, r'⟩ t => by
    obtain rfl : n = n' := e
    unfold putF putM
    by_cases q : n = f
    · simp only [q, if_true]; exact .cons ⟨rfl, r⟩ t
    · simp only [q, if_false]; exact .cons ⟨rfl, r'⟩ (paired_put r t)
/-- the module's class c; its instances have fields fld -/
structure HasCls (K : PySem.W.Frag) (mg : Str → Option Value) (c : Str) (fld : List Str) : Prop where
  ex : ∃ C, mg c = some (.ref C) ∧ Cls K C ∧ ∀ f ∈ fld, NoAttr K C f
def eFld (c f : Str) (fo : XE) : XE := fun ρ S => (fo ρ S).bind fun x S1 => match insOf S1 x with
  | some (c', fs) => if c' = c then (match fs.lookup f with | some m => .ok m S1 | none => .stuck) else .stuck
  | none => .stuck
theorem qe_fld {e : Expr} {f c : Str} {pos : Pos} {fo : XE} {fld : List Str} (h : HasCls X.K X.mg c fld) (he : QE X W e fo) (hf : f ∈ fld := by decide) (hb : attributeBase e f X.env (eval e X.env) = eval e X.env := by rfl) : QE X W (.Attribute e f pos) (eFld c f fo) := by
  obtain ⟨C, hC, cl, na⟩ := h.ex
  refine PE.weak (pe_fld he hb) ?_
  rintro σ H Q ⟨N, a, ρ, ⟨rfl, sr, en⟩, h⟩
  refine ⟨N, a, ρ, ⟨rfl, sr, en⟩, (Post.bind_out (rel := MR X.K X.mg N) h).mono ?_⟩
  rintro v H1 ⟨b, m, rfl, x, sb, rm, h1⟩
  split at h1
  · rename_i c' fs q
    split at h1
    · rename_i ec
      subst ec
      obtain ⟨p, C', dx, ws, rfl, hp, hm, t⟩ := insOf_ok sb rm q
      rw [hC] at hm
      cases hm
      split at h1
      · rename_i m' l
        obtain ⟨v, l2, r⟩ := (paired_lookup t).1 m' l
        exact ⟨p, C, dx, ws, v, rfl, hp, cl, na f hf, l2, Post.okm sb h1 r⟩
      · exact h1.elim
    · exact h1.elim
  · exact h1.elim
/-- o.f = e -/
def sFldS (c f : Str) (fo fe : XE) : XS := fun ρ S => (fe ρ S).thn ρ fun y S1 => (fo ρ S1).thn ρ fun x S2 => match x with
  | .loc k => match S2[k]? with
    | some (.ins c' fs) => if c' = c ∧ fs.length < 1000 then .nx ρ (S2.set k (.ins c (putM f y fs))) else .stuck
    | _ => .stuck
  | _ => .stuck
theorem qs_fld {o e : Expr} {f c : Str} {pos pos' : Pos} {fo fe : XE} {fld : List Str} (h : HasCls X.K X.mg c fld) (ho : QE X W o fo) (he : QE X W e fe) (hf : f ∈ fld := by decide) (hs : swapsWith e (some (.Attribute o f pos')) pos.line X.env = pure false := by rfl) :
    QS X W (.Assign [.Attribute o f pos'] e pos) (sFldS c f fo fe) := by
  obtain ⟨C, hC, cl, na⟩ := h.ex
  refine PS.weak (ps_fld ho he hs) ?_
  rintro D σ H ⟨N, a, ρ, ⟨rfl, sr, en⟩, h⟩
  refine ⟨N, a, ρ, ⟨rfl, sr, en⟩, (PostS.thn_out (rel := MR X.K X.mg N) en h).mono ?_⟩
  rintro y H1 ⟨b, m, rfl, x, sb, r, h1⟩
  refine ⟨N, b, ρ, ⟨rfl, sb, en.ext x⟩, (PostS.thn_out (rel := MR X.K X.mg N) (en.ext x) h1).mono ?_⟩
  rintro ov H2 ⟨d, mo, rfl, x2, sd, ro, h2⟩
  split at h2
  · rename_i k
    obtain ⟨hk, rfl⟩ := ro
    split at h2
    · rename_i c' fs q
      split at h2
      · rename_i hc
        obtain ⟨rfl, hl⟩ := hc
        obtain ⟨C', dx, ws, hp, hm, t⟩ := sd.at_ k _ q
        rw [hC] at hm
        cases hm
        refine ⟨_, C, dx, ws, rfl, hp, cl, na f hf, by rw [← paired_len t]; exact hl, ?_⟩
        obtain ⟨ex, sr'⟩ := written (o := .ins C dx (putF f y ws)) (ob' := .ins c' (putM f m fs)) sd q (by simp) (by simp) fun b' xb q' => ⟨C, dx, _, q', hC, paired_put ((r.ext x2).ext xb) (MRps.ext xb t)⟩
        exact h2 _ σ rfl ex sr' (((en.ext x).ext x2).ext ex)
      · exact h2.elim
    · exact h2.elim
  · exact h2.elim
/-- a method m of the class c keeps sp -/
structure HasMeth (P : Program) (w : World) (K : PySem.W.Frag) (mg : Str → Option Value) (base : Heap) (c m : Str) (k : Nat) (sp : Sp) : Prop where
  ex : ∃ C f fd ps, mg c = some (.ref C) ∧ Cls K C ∧ Meth K C m f ∧ FnOk P w K mg base (L2.CX P w) k f fd ps sp ∧ Binds K fd ps []
def eMeth (c m : Str) (F : SFn) (fo : XE) (g : XA) : XE := fun ρ S => (fo ρ S).bind fun x S1 => match insOf S1 x with
  | some (c', fs) => if c' = c then (match fs.lookup m with | none => (g ρ S1).bind fun ms S2 => F (x :: ms) S2 | some _ => .stuck) else .stuck
  | none => .stuck
theorem meth_read {K : PySem.W.Frag} {mg : Str → Option Value} {c m : Str} {F : SFn} {fo : XE} {g : XA} {C : Addr} {sp : Sp} {E : XK} (hC : mg c = some (.ref C)) (so : SpOk K mg sp F) (hE : ∀ σ cls d H, E cls d H ↔ W cls d σ H) (σ : St) (H : Hp) (Q : VK) (h : IE K mg W (eMeth c m F fo g) σ H Q) : tMeth C m sp [] E (IE K mg W fo) (IA K mg W g) σ H Q := by
  obtain ⟨N, a, ρ, ⟨rfl, sr, en⟩, h⟩ := h
  refine ⟨N, a, ρ, ⟨rfl, sr, en⟩, (Post.bind_out (rel := MR K mg N) h).mono ?_⟩
  rintro v H1 ⟨b, mm, rfl, x, sb, rm, h1⟩
  split at h1
  · rename_i c' fs q
    split at h1
    · rename_i ec
      subst ec
      obtain ⟨p, C', dx, ws, rfl, hp, hm', t⟩ := insOf_ok sb rm q
      rw [hC] at hm'
      cases hm'
      split at h1
      · rename_i l
        refine ⟨p, dx, ws, rfl, hp, (paired_lookup t).2 l, N, b, ρ, ⟨rfl, sb, en.ext x⟩, (Post.bind_out (rel := RelA K mg N) h1).mono ?_⟩
        rintro vs H2 ⟨d, ms, rfl, x2, sd, rs, h2⟩
        rw [List.append_nil]
        have e1 : (fun c d H' => W c d σ H') = E := by funext c d H'; exact propext (hE σ c d H').symm
        rw [e1] at h2
        exact so N d _ _ _ Q sd (.cons (rm.ext x2) rs) h2
      · exact h1.elim
    · exact h1.elim
  · exact h1.elim
/-- o.m(e, ..), where what is raised is wanted whatever the slots are -/
theorem qe_meth {k : Nat} {c m : Str} {o e : Expr} {es : List Expr} {apos pos : Pos} {fo : XE} {g : XA} {sp : Sp} {F : SFn} {E : XK} {pl : Sem Bool} (h : HasMeth X.prog X.w X.K X.mg X.base c m k sp) (so : SpOk X.K X.mg sp F) (hr : Room k X.A) (tk : Takes X (WD E)) (ho : QE X (WD E) o fo) (ha : QA X (WD E) (e :: es) g)
    (hst : starEach (e :: es) X.env = (false, eval e X.env) :: starEach es X.env := by rfl) (hpl : (backTo pos (starEach es X.env)).any (·.1) = false := by rfl)
    (ht : eval (.Call (.Attribute o m apos) (e :: es) [] pos) X.env = (do
      let ov ← eval o X.env
      standAt apos.atName
      let (f, first) ← holding [ov] (getMethod ov m pl)
      callWith pos f first (backTo pos (starEach (e :: es) X.env)) (backToKw pos (keywordEach [] X.env))) := by rfl) : QE X (WD E) (.Call (.Attribute o m apos) (e :: es) [] pos) (eMeth c m F fo g) := by
  obtain ⟨C, f, fd, ps, hC, cl, hm, FO, hb⟩ := h.ex
  exact PE.weak (pe_meth ho cl hm FO hr hb .nil (passes_call tk fun _ _ _ _ z => z) ha hst hpl ht) (meth_read hC so fun _ _ _ _ => Iff.rfl)
theorem qe_meth0 {k : Nat} {c m : Str} {o : Expr} {apos pos : Pos} {fo : XE} {sp : Sp} {F : SFn} {E : XK} {pl : Sem Bool} (h : HasMeth X.prog X.w X.K X.mg X.base c m k sp) (so : SpOk X.K X.mg sp F) (hr : Room k X.A) (tk : Takes X (WD E)) (ho : QE X (WD E) o fo)
    (ht : eval (.Call (.Attribute o m apos) [] [] pos) X.env = (do
      let ov ← eval o X.env
      standAt apos.atName
      let (f, first) ← holding [ov] (getMethod ov m pl)
      callWith pos f first (backTo pos (starEach [] X.env)) (backToKw pos (keywordEach [] X.env))) := by rfl) : QE X (WD E) (.Call (.Attribute o m apos) [] [] pos) (eMeth c m F fo aNil) := by
  obtain ⟨C, f, fd, ps, hC, cl, hm, FO, hb⟩ := h.ex
  refine PE.weak (pe_meth0 ho cl hm FO hr hb .nil (passes_call tk fun _ _ _ _ z => z) ht) fun σ H Q h => ?_
  obtain ⟨N, a, ρ, r, h⟩ := meth_read hC so (fun _ _ _ _ => Iff.rfl) σ H Q h
  refine ⟨N, a, ρ, r, h.mono fun v H1 ⟨p, dx, ws, e1, e2, e3, N', b, ρ', r', h'⟩ => ⟨p, dx, ws, e1, e2, e3, ?_⟩⟩
  obtain ⟨rfl, sb, _⟩ := r'
  exact h' b [] rfl (.refl b) sb .nil
/-! ### new instances -/
structure HasInit (P : Program) (w : World) (K : PySem.W.Frag) (mg : Str → Option Value) (base : Heap) (c : Str) (k : Nat) (sp : Sp) : Prop where
  ex : ∃ C f fd ps, mg c = some (.ref C) ∧ Mk K C f ∧ FnOk P w K mg base (L2.CX P w) k f fd ps sp ∧ Binds K fd ps []
def mkIns (c : Str) (F : SFn) (ms : List Mv) (S : Sto) : Rz Mv := (F (.loc S.length :: ms) (S ++ [.ins c []])).bind fun m S2 => match m with
  | .val .non => .ok (.loc S.length) S2
  | _ => .stuck
theorem qe_make {k : Nat} {c : Str} {p pos : Pos} {e : Expr} {es : List Expr} {g : XA} {sp : Sp} {F : SFn} {E : XK} (h : HasInit X.prog X.w X.K X.mg X.base c k sp) (so : SpOk X.K X.mg sp F) (hr : Room (k + 1) X.A) (tk : Takes X (WD E)) (ha : QA X (WD E) (e :: es) g) (hg : Gl X c := by rfl) (hdb : (c == ("__debug__" : Str)) = false := by decide)
    (he : starEach (e :: es) X.env = (false, eval e X.env) :: starEach es X.env := by rfl) (hpl : (backTo pos (starEach es X.env)).any (·.1) = false := by rfl) : QE X (WD E) (.Call (.Name c p) (e :: es) [] pos) (eMk (mkIns c F) g) := by
  obtain ⟨C, f, fd, ps, hC, mk, FO, hb⟩ := h.ex
  refine PE.weak (pe_make mk FO hr hg hC hb .nil (passes_call tk fun _ _ _ _ z => z) ha hdb he hpl) ?_
  rintro σ H Q ⟨N, a, ρ, ⟨rfl, sr, en⟩, h⟩
  refine ⟨N, a, ρ, ⟨rfl, sr, en⟩, (Post.bind_out (rel := RelA X.K X.mg N) h).mono ?_⟩
  rintro vs H1 ⟨b, ms, rfl, x, sb, rs, h1⟩
  intro y dx hy hdx ne
  obtain ⟨x1, s1, _⟩ := laid (o := .own y) sb hdx
  have hy' : upd b.H dx (.own y) y = none := by rw [upd_ne (Ne.symm ne)]; exact hy
  obtain ⟨x2, s2⟩ := placed (a := ⟨b.i, b.S, upd b.H dx (.own y)⟩) (o := .ins C dx []) (ob := .ins c []) s1 hy' fun b' _ q => ⟨C, dx, [], q, hC, .nil⟩
  rw [List.append_nil]
  refine so N _ (.loc b.S.length :: ms) _ E _ s2 (.cons ⟨by simp, by show V.ref y = V.ref (put b.i b.S.length y b.S.length); rw [put_at]⟩ (MRs.ext (x1.trans x2) rs)) ?_
  refine (Post.bind_out (rel := MR X.K X.mg N) (h1.from_ (x1.trans x2))).mono ?_
  rintro v H2 ⟨d, m, rfl, xd, sd, rm, h3⟩
  split at h3
  · cases rm
    refine ⟨rfl, Post.okm sd h3 ⟨?_, ?_⟩⟩
    · exact Nat.lt_of_lt_of_le (by simp) xd.ln
    · rw [xd.ag b.S.length (by simp)]
      show V.ref y = V.ref (put b.i b.S.length y b.S.length)
      rw [put_at]
  · exact h3.elim
end
end MK

/-! MK, part 5: comprehensions. -/
namespace MK
open PySem L2
def wipeM (ρ : List (Option Mv)) : List Nat → List (Option Mv)
  | [] => ρ
  | v :: vs => (wipeM ρ vs).set v none
inductive Tg where
  | one (i : Nat) | many (is : List Nat)
def Tg.ix : Tg → List Nat
  | .one i => [i]
  | .many is => is
def gNames : List Nat → TGs
  | [] => gNil
  | i :: is => gCons (gName i) (gNames is)
def tgG (K : PySem.W.Frag) : Tg → TG
  | .one i => gName i
  | .many is => gTup K is.length (gNames is)
def setMany : List Nat → List Dv → List (Option Mv) → List (Option Mv)
  | i :: is, d :: ds, ρ => setMany is ds (ρ.set i (some (.val d)))
  | _, _, ρ => ρ
def tgSet : Tg → Mv → List (Option Mv) → Option (List (Option Mv))
  | .one i, m, ρ => some (ρ.set i (some m))
  | .many is, .val (.tup ds), ρ => if ds.length = is.length then some (setMany is ds ρ) else none
  | _, _, _ => none
section
variable {K : PySem.W.Frag} {mg : Str → Option Value} {N : Addr → Prop}
theorem wipe_len (σ : St) : ∀ vs : List Nat, (wipe σ vs).length = σ.length := wipe_length σ
theorem wipe_get (σ : St) (k : Nat) : ∀ vs : List Nat, (wipe σ vs)[k]? = if k ∈ vs then (if k < σ.length then some none else none) else σ[k]?
  | [] => by simp [wipe]
  | v :: vs => by
    unfold wipe
    rw [List.getElem?_set]
    by_cases hv : v = k
    · subst hv
      simp [wipe_length]
    · have hv' : ¬ k = v := fun e => hv e.symm
      simp only [hv, if_false, List.mem_cons, hv', false_or]
      exact wipe_get σ k vs
theorem wipe_set {σ : St} {i : Nat} {x : Option V} {vs : List Nat} (h : i ∈ vs) : wipe (σ.set i x) vs = wipe σ vs := by
  refine List.ext_getElem? fun k => ?_
  rw [wipe_get, wipe_get]
  by_cases hk : k ∈ vs
  · simp [hk]
  · have : ¬ i = k := fun e => hk (e ▸ h)
    simp only [hk, if_false]
    rw [List.getElem?_set_ne this]
theorem wipe_wipe (σ : St) (vs : List Nat) : wipe (wipe σ vs) vs = wipe σ vs := by
  refine List.ext_getElem? fun k => ?_
  rw [wipe_get, wipe_get]
  by_cases hk : k ∈ vs <;> simp [hk, wipe_length]
theorem EnvR.wipe {a : S3} {ρ : List (Option Mv)} {σ : St} (h : EnvR K mg N a ρ σ) : ∀ vs : List Nat, EnvR K mg N a (wipeM ρ vs) (L2.wipe σ vs)
  | [] => h
  | v :: vs => (EnvR.wipe h vs).unset v
theorem gNames_ok {a : S3} {vs : List Nat} : ∀ {is : List Nat} {ds : List Dv} {ws : List V} {ρ : List (Option Mv)} {σ σ0 : St} {R : St → Hp → Prop}, ds.length = is.length → (∀ i ∈ is, i ∈ vs) → VRs K mg (Fz N a) ds ws → EnvR K mg N a ρ σ → L2.wipe σ vs = L2.wipe σ0 vs →
    (∀ σ2, EnvR K mg N a (setMany is ds ρ) σ2 → L2.wipe σ2 vs = L2.wipe σ0 vs → R σ2 a.H) → gNames is ws σ a.H R
  | [], [], _, _, _, _, _, _, _, .nil, en, e, h => ⟨rfl, h _ en e⟩
  | i :: is, d :: ds, _, _, _, _, _, hl, hi, .cons r t, en, e, h => by
    refine ⟨_, _, rfl, ?_⟩
    exact gNames_ok (by simpa using hl) (fun j hj => hi j (List.mem_cons_of_mem _ hj)) t (en.set (m := .val d) i r) (by rw [wipe_set (hi i List.mem_cons_self)]; exact e) h
theorem tgG_ok {a : S3} {t : Tg} {m : Mv} {v : V} {ρ ρ2 : List (Option Mv)} {σ : St} {R : St → Hp → Prop} (r : MR K mg N a m v) (en : EnvR K mg N a ρ (L2.wipe σ t.ix)) (e : tgSet t m ρ = some ρ2)
    (h : ∀ σ2, EnvR K mg N a ρ2 σ2 → L2.wipe σ2 t.ix = L2.wipe σ t.ix → R σ2 a.H) : tgG K t v (L2.wipe σ t.ix) a.H R := by
  cases t with
  | one i =>
    cases e
    exact h _ (en.set i r) ((wipe_set (List.mem_singleton.mpr rfl)).trans (wipe_wipe σ [i]))
  | many is =>
    cases m with
    | loc k => cases e
    | val d =>
      cases d with
      | tup ds =>
        replace e : (if ds.length = is.length then some (setMany is ds ρ) else none) = some ρ2 := e
        split at e
        · rename_i hl
          cases e
          obtain ⟨p, ws, rfl, hs, t⟩ := MR.tup r
          exact ⟨p, ws, rfl, hs, by rw [← t.length]; exact hl, gNames_ok (vs := is) hl (fun _ h => h) t en (wipe_wipe σ is) h⟩
        · cases e
      | _ => cases e
/-- D is hidden and written -/
theorem SR.hid {a : S3} {D : Addr} {o : HO} (sr : SR K mg N a) (hD : N D) : SR K mg N ⟨a.i, a.S, upd a.H D o⟩ ∧ (∀ {m : Mv} {v : V}, MR K mg N a m v → MR K mg N ⟨a.i, a.S, upd a.H D o⟩ m v) := by
  have fz : Sub (Fz N a) (Fz N ⟨a.i, a.S, upd a.H D o⟩) := fun z u h => by
    obtain ⟨h1, h2⟩ := hide_some.mp h
    refine hide_some.mpr ⟨h1, ?_⟩
    show upd a.H D o z = some u
    rw [upd_ne (fun e => h1 (.inl (by rw [e]; exact hD)))]
    exact h2
  have mr : ∀ {m : Mv} {v : V}, MR K mg N a m v → MR K mg N ⟨a.i, a.S, upd a.H D o⟩ m v := fun {m v} h => by
    cases m with
    | val d => exact VR.mono fz h
    | loc k => exact h
  refine ⟨⟨fun b h => ?_, sr.nn, sr.inj, fun k ob e => ?_⟩, mr⟩
  · show upd a.H D o b ≠ none
    by_cases hb : b = D
    · rw [hb, upd_same]; simp
    · rw [upd_ne hb]; exact sr.nm b h
  · have q := sr.at_ k ob e
    have ne : ob ≠ .dead → a.i k ≠ D := fun nd z => sr.nn _ ⟨k, ob, e, nd, rfl⟩ (by rw [z]; exact hD)
    cases ob with
    | lst ms => obtain ⟨ws, h, t⟩ := q; exact ⟨ws, by show upd a.H D o _ = _; rw [upd_ne (ne (by simp))]; exact h, Paired.mapP t fun _ _ z => mr z⟩
    | dK ms => obtain ⟨ws, h, t⟩ := q; exact ⟨ws, by show upd a.H D o _ = _; rw [upd_ne (ne (by simp))]; exact h, Paired.mapP t fun _ _ z => ⟨z.1, mr z.2⟩⟩
    | dT ms => obtain ⟨ws, h, t⟩ := q; exact ⟨ws, by show upd a.H D o _ = _; rw [upd_ne (ne (by simp))]; exact h, Paired.mapP t fun _ _ z => ⟨z.1, mr z.2⟩⟩
    | ins c fs => obtain ⟨C, dx, ws, h, m, t⟩ := q; exact ⟨C, dx, ws, by show upd a.H D o _ = _; rw [upd_ne (ne (by simp))]; exact h, m, Paired.mapP t fun _ _ z => ⟨z.1, mr z.2⟩⟩
    | dead => trivial
/-- more is seen -/
theorem SR.show {a : S3} {N' : Addr → Prop} (up : ∀ x, N x → N' x) (sr : SR K mg N' a) : SR K mg N a ∧ (∀ {m : Mv} {v : V}, MR K mg N' a m v → MR K mg N a m v) := by
  have fz : Sub (Fz N' a) (Fz N a) := fun z u h => by
    obtain ⟨h1, h2⟩ := hide_some.mp h
    refine hide_some.mpr ⟨fun q => h1 ?_, h2⟩
    rcases q with q | q
    · exact .inl (up z q)
    · exact .inr q
  have mr : ∀ {m : Mv} {v : V}, MR K mg N' a m v → MR K mg N a m v := fun {m v} h => by
    cases m with
    | val d => exact VR.mono fz h
    | loc k => exact h
  refine ⟨⟨fun b h => sr.nm b (up b h), fun b h q => sr.nn b h (up b q), sr.inj, fun k ob e => ?_⟩, mr⟩
  have q := sr.at_ k ob e
  cases ob with
  | lst ms => obtain ⟨ws, h, t⟩ := q; exact ⟨ws, h, Paired.mapP t fun _ _ z => mr z⟩
  | dK ms => obtain ⟨ws, h, t⟩ := q; exact ⟨ws, h, Paired.mapP t fun _ _ z => ⟨z.1, mr z.2⟩⟩
  | dT ms => obtain ⟨ws, h, t⟩ := q; exact ⟨ws, h, Paired.mapP t fun _ _ z => ⟨z.1, mr z.2⟩⟩
  | ins c fs => obtain ⟨C, dx, ws, h, m, t⟩ := q; exact ⟨C, dx, ws, h, m, Paired.mapP t fun _ _ z => ⟨z.1, mr z.2⟩⟩
  | dead => trivial
/-- nothing is raised -/
def Rz.nox {α : Type} : Rz α → Rz α
  | .ok a S => .ok a S
  | _ => .stuck
@[simp] theorem Rz.nox_ok {α : Type} (a : α) (S : Sto) : (Rz.ok a S).nox = .ok a S := rfl
open Classical in
noncomputable def lcS (chk : Sto → Prop) (t : Tg) (ρ : List (Option Mv)) (tt : XT) (te : XE) : List Mv → List Mv → Sto → Rz (List Mv)
  | [], acc, S => if chk S then .ok acc S else .stuck
  | m :: ms, acc, S => if chk S then (match tgSet t m ρ with
    | some ρ2 => (tt ρ2 S).nox.bind fun b S1 => match b with
      | true => (te ρ2 S1).nox.bind fun y S2 => if acc.length < sizeLine then lcS chk t ρ tt te ms (acc ++ [y]) S2 else .stuck
      | false => lcS chk t ρ tt te ms acc S1
    | none => .stuck) else .stuck
theorem Rz.bind_assoc {α β γ : Type} (x : Rz α) (f : α → Sto → Rz β) (g : β → Sto → Rz γ) : (x.bind f).bind g = x.bind fun a S => (f a S).bind g := by cases x <;> rfl
abbrev W0 : WX := fun _ _ _ _ => False
theorem Post.nox_out {α β γ δ : Type} {rel : S3 → α → β → Prop} {rel2 : S3 → γ → δ → Prop} {N2 : Addr → Prop} {a a2 : S3} {W : XK} {Q : δ → Hp → Prop} {x : Rz α} {f : α → Sto → Rz γ} (h : Post rel2 K mg N2 a2 W Q (x.nox.bind f)) :
    Post rel K mg N a (fun _ _ _ => False) (fun v H1 => ∃ b m, b.H = H1 ∧ Ext a b ∧ SR K mg N b ∧ rel b m v ∧ Post rel2 K mg N2 a2 W Q (f m b.S)) x := by
  cases x with
  | ok m S' => exact fun b v e y s r => ⟨b, m, rfl, y, s, r, by rw [e]; exact h⟩
  | exn e S' => exact h.elim
  | stuck => exact h
end
section
variable {X : Cx} {W : WX}
noncomputable def eLc (fin : List Mv → Sto → Rz Mv) (f : XI) (t : Tg) (tt : XT) (te : XE) : XE := fun ρ S => (f ρ S).bind fun p S1 => (lcS p.2 t (wipeM ρ t.ix) tt te p.1 [] S1).bind fin
def finL (ms : List Mv) (S : Sto) : Rz Mv := match vals ms with
  | some ds => .ok (.val (.lst ds)) S
  | none => .stuck
def finN (ms : List Mv) (S : Sto) : Rz Mv := .ok (.loc S.length) (S ++ [.lst ms])
/-- what a list that a comprehension has made becomes -/
def FinOk (K : PySem.W.Frag) (mg : Str → Option Value) (fin : List Mv → Sto → Rz Mv) : Prop := ∀ (N : Addr → Prop) (a c : S3) (D : Addr) (ms : List Mv) (ws : List V) (W : XK) (Q : VK), Ext a c → a.H D = none → SR K mg (fun x => N x ∨ x = D) c → ¬ N D → c.H D = some (.lst ws) → Paired (MR K mg (fun x => N x ∨ x = D) c) ms ws →
  Post (MR K mg N) K mg N a W Q (fin ms c.S) → Q (.ref D) c.H
theorem finL_ok {K : PySem.W.Frag} {mg : Str → Option Value} : FinOk K mg finL := by
  intro N a c D ms ws W Q x hD sr nD h r hq
  unfold finL at hq
  split at hq
  · rename_i ds e
    rw [vals_some e] at r
    obtain ⟨s2, mr⟩ := SR.show (fun x h => .inl h) sr
    refine hq c (.ref D) rfl x s2 (VR.lst (SqL.of (hide_some.mpr ⟨fun q => ?_, h⟩)) (paired_vals (Paired.mapP r fun _ _ z => mr z)))
    rcases q with q | q
    · exact nD q
    · exact sr.nn D q (.inr rfl)
  · exact hq.elim
theorem finN_ok {K : PySem.W.Frag} {mg : Str → Option Value} : FinOk K mg finN := by
  intro N a c D ms ws W Q x hD sr nD h r hq
  obtain ⟨s2, mr⟩ := SR.show (fun x h => .inl h) sr
  have lo : ∀ {k : Nat} {u}, c.S[k]? = some u → put c.i c.S.length D k = c.i k := fun {k u} h => put_ne (Nat.ne_of_lt (List.getElem?_eq_some_iff.mp h).1)
  have get : ∀ {k : Nat} {u}, (c.S ++ [Ob.lst ms])[k]? = some u → c.S[k]? = some u ∨ (k = c.S.length ∧ u = .lst ms) := fun {k u} h => by
    by_cases hk : k < c.S.length
    · rw [List.getElem?_append_left hk] at h; exact .inl h
    · rw [List.getElem?_append_right (Nat.le_of_not_lt hk)] at h
      have hl := (List.getElem?_eq_some_iff.mp h).1
      have e0 : k - c.S.length = 0 := by simp at hl; omega
      rw [e0] at h
      exact .inr ⟨by omega, by simpa using h.symm⟩
  have ownc : ∀ {z}, Own ⟨put c.i c.S.length D, c.S ++ [.lst ms], c.H⟩ z → Own c z ∨ z = D := fun {z} hz => by
    obtain ⟨k, u, e, nd, rfl⟩ := hz
    rcases get e with e | ⟨rfl, rfl⟩
    · exact .inl ⟨k, u, e, nd, (lo e).symm⟩
    · exact .inr put_at
  have notD : ∀ {k : Nat} {u}, c.S[k]? = some u → u ≠ .dead → c.i k ≠ D := fun {k u} e nd z => sr.nn _ ⟨k, u, e, nd, rfl⟩ (.inr z)
  have fz : Sub (Fz (fun x => N x ∨ x = D) c) (Fz N ⟨put c.i c.S.length D, c.S ++ [.lst ms], c.H⟩) := fun z u hz => by
    obtain ⟨h1, h2⟩ := hide_some.mp hz
    refine hide_some.mpr ⟨fun q => h1 ?_, h2⟩
    rcases q with q | q
    · exact .inl (.inl q)
    · rcases ownc q with q | q
      · exact .inr q
      · exact .inl (.inr q)
  have mr2 : ∀ {m : Mv} {v : V}, MR K mg (fun x => N x ∨ x = D) c m v → MR K mg N ⟨put c.i c.S.length D, c.S ++ [.lst ms], c.H⟩ m v := fun {m v} hm => by
    cases m with
    | val d => exact VR.mono fz hm
    | loc k => exact ⟨by simp; exact Nat.lt_succ_of_lt hm.1, by rw [hm.2]; show V.ref (c.i k) = V.ref (put c.i c.S.length D k); rw [put_ne (Nat.ne_of_lt hm.1)]⟩
  have ex : Ext a ⟨put c.i c.S.length D, c.S ++ [.lst ms], c.H⟩ := by
    refine ⟨fun k hk => ?_, ?_, x.kp, fun z hz => ?_⟩
    · show put c.i c.S.length D k = _
      rw [put_ne (Nat.ne_of_lt (Nat.lt_of_lt_of_le hk x.ln))]
      exact x.ag k hk
    · have := x.ln; simp; omega
    · rcases ownc hz with q | rfl
      · exact x.fr z q
      · exact .inr hD
  refine hq ⟨put c.i c.S.length D, c.S ++ [.lst ms], c.H⟩ (.ref D) rfl ex ⟨s2.nm, fun b hb => ?_, fun j k oj ok ej ek nj nk e => ?_, fun k u e => ?_⟩ ⟨by simp, by show V.ref D = V.ref (put c.i c.S.length D c.S.length); rw [put_at]⟩
  · rcases ownc hb with q | rfl
    · exact s2.nn b q
    · exact nD
  · replace e : put c.i c.S.length D j = put c.i c.S.length D k := e
    rcases get ej with e1 | ⟨hj, z1⟩
    · rcases get ek with e2 | ⟨hk, z2⟩
      · rw [lo e1, lo e2] at e; exact s2.inj j k oj ok e1 e2 nj nk e
      · rw [lo e1, hk, put_at] at e
        exact (notD e1 nj e).elim
    · rcases get ek with e2 | ⟨hk, z2⟩
      · rw [lo e2, hj, put_at] at e
        exact (notD e2 nk e.symm).elim
      · rw [hj, hk]
  · show OR K mg N _ (put c.i c.S.length D k) u
    rcases get e with e | ⟨rfl, rfl⟩
    · rw [lo e]
      have q := sr.at_ k u e
      cases u with
      | lst ms => obtain ⟨ws, h, t⟩ := q; exact ⟨ws, h, Paired.mapP t fun _ _ z => mr2 z⟩
      | dK ms => obtain ⟨ws, h, t⟩ := q; exact ⟨ws, h, Paired.mapP t fun _ _ z => ⟨z.1, mr2 z.2⟩⟩
      | dT ms => obtain ⟨ws, h, t⟩ := q; exact ⟨ws, h, Paired.mapP t fun _ _ z => ⟨z.1, mr2 z.2⟩⟩
      | ins c fs => obtain ⟨C, dx, ws, h, m, t⟩ := q; exact ⟨C, dx, ws, h, m, Paired.mapP t fun _ _ z => ⟨z.1, mr2 z.2⟩⟩
      | dead => trivial
    · rw [put_at]
      exact ⟨ws, h, Paired.mapP r fun _ _ z => mr2 z⟩
theorem lc_read {fin : List Mv → Sto → Rz Mv} {f : XI} {t : Tg} {tt : XT} {te : XE} {K : PySem.W.Frag} {mg : Str → Option Value} (hf : FinOk K mg fin) (σ : St) (H : Hp) (Q : VK) (h : IE K mg W (eLc fin f t tt te) σ H Q) :
    tLc (II K mg W f) (tgG K t) (IT K mg W0 tt) (IE K mg W0 te) t.ix σ H Q := by
  obtain ⟨N, a, ρ, ⟨rfl, sr, en⟩, h⟩ := h
  refine ⟨N, a, ρ, ⟨rfl, sr, en⟩, (Post.bind_out (rel := Walks K mg N) h).mono ?_⟩
  rintro J H1 ⟨b, p, rfl, x, sb, wk, h1⟩
  obtain ⟨ms, chk⟩ := p
  intro D hD
  have nD : ¬ N D := fun q => sb.nm D q hD
  have mo : More N (fun x => N x ∨ x = D) b := ⟨fun x h => .inl h, fun x h => h.elim .inl fun e => .inr (by rw [e]; exact hD)⟩
  have eb := en.ext x
  have ext0 : ∀ {c : S3} {o : HO}, Ext b c → Ext b ⟨c.i, c.S, upd c.H D o⟩ := fun {c o} y => ⟨y.ag, y.ln, fun z u hz n => by
    show upd c.H D o z = some u
    rw [upd_ne (fun e => by rw [e, hD] at hz; cases hz)]
    exact y.kp z u hz n, y.fr⟩
  have s0 : SR K mg (fun x => N x ∨ x = D) ⟨b.i, b.S, upd b.H D (.lst [])⟩ := by
    obtain ⟨x1, s1, _⟩ := laid (o := .lst []) sb hD
    refine ⟨fun z hz => ?_, fun z hz q => ?_, s1.inj, fun k ob e => ?_⟩
    · rcases hz with hz | rfl
      · exact s1.nm z hz
      · show upd b.H z _ z ≠ none
        rw [upd_same]; simp
    · rcases q with q | rfl
      · exact s1.nn z hz q
      · exact sb.lt (b := z) hz hD
    · have q := sb.at_ k ob e
      have ne : ∀ {u}, b.H (b.i k) = some u → b.i k ≠ D := fun h e => by rw [e, hD] at h; cases h
      have mr : ∀ {m : Mv} {v : V}, MR K mg N b m v → MR K mg (fun x => N x ∨ x = D) ⟨b.i, b.S, upd b.H D (.lst [])⟩ m v := fun h => h.extN mo x1
      cases ob with
      | lst ms => obtain ⟨ws, h, t⟩ := q; exact ⟨ws, by show upd b.H D _ _ = _; rw [upd_ne (ne h)]; exact h, Paired.mapP t fun _ _ z => mr z⟩
      | dK ms => obtain ⟨ws, h, t⟩ := q; exact ⟨ws, by show upd b.H D _ _ = _; rw [upd_ne (ne h)]; exact h, Paired.mapP t fun _ _ z => ⟨z.1, mr z.2⟩⟩
      | dT ms => obtain ⟨ws, h, t⟩ := q; exact ⟨ws, by show upd b.H D _ _ = _; rw [upd_ne (ne h)]; exact h, Paired.mapP t fun _ _ z => ⟨z.1, mr z.2⟩⟩
      | ins c fs => obtain ⟨C, dx, ws, h, m, t⟩ := q; exact ⟨C, dx, ws, by show upd b.H D _ _ = _; rw [upd_ne (ne h)]; exact h, m, Paired.mapP t fun _ _ z => ⟨z.1, mr z.2⟩⟩
      | dead => trivial
  refine ⟨fun i m H => m = ms.length - i ∧ i ≤ ms.length ∧ ∃ (c : S3) (acc : List Mv) (ws : List V), c.H = H ∧ Ext b c ∧ SR K mg (fun x => N x ∨ x = D) c ∧ H D = some (.lst ws) ∧ Paired (MR K mg (fun x => N x ∨ x = D) c) acc ws ∧
    Post (MR K mg N) K mg N b (fun c d H' => W c d σ H') Q ((lcS chk t (wipeM ρ t.ix) tt te (ms.drop i) acc c.S).bind fin), ⟨_, rfl, Nat.zero_le _, ⟨b.i, b.S, upd b.H D (.lst [])⟩, [], [], rfl, ext0 (.refl b), s0, upd_same, .nil, h1⟩, ?_⟩
  rintro i n H ⟨rfl, hi, c, acc, ws, rfl, xc, sc, hc, ra, hh⟩
  have notOwn : ∀ {e : S3}, SR K mg (fun x => N x ∨ x = D) e → ¬ Own e D := fun s o => s.nn D o (.inr rfl)
  by_cases hl : i < ms.length
  · have ed : ms.drop i = ms[i] :: ms.drop (i + 1) := (List.drop_eq_getElem_cons hl)
    rw [ed] at hh
    unfold lcS at hh
    split at hh
    · rename_i hk
      obtain ⟨_, wk2⟩ := wk _ c mo xc sc hk i
      obtain ⟨go, wk3⟩ := wk2 ms[i] (List.getElem?_eq_getElem hl)
      refine .inr ⟨go, fun H' => i + 1 ≤ ms.length ∧ ∃ (c : S3) (acc : List Mv) (ws : List V), c.H = H' ∧ Ext b c ∧ SR K mg (fun x => N x ∨ x = D) c ∧ H' D = some (.lst ws) ∧ Paired (MR K mg (fun x => N x ∨ x = D) c) acc ws ∧
        Post (MR K mg N) K mg N b (fun c d H' => W c d σ H') Q ((lcS chk t (wipeM ρ t.ix) tt te (ms.drop (i + 1)) acc c.S).bind fin), fun H' q => ⟨ms.length - (i + 1), by omega, rfl, q⟩, fun y H' hy => ?_⟩
      obtain ⟨d, eS, rfl, xd, sd, rm⟩ := wk3 y H' hy
      have hd := xd.kp D _ hc (notOwn sc)
      split at hh
      · rename_i ρ2 et
        refine tgG_ok rm ((eb.extN mo (xc.trans xd)).wipe t.ix) et fun σ2 e2 w2 => ⟨w2, ?_⟩
        rw [← eS] at hh
        rw [Rz.bind_assoc] at hh
        refine ⟨_, d, ρ2, ⟨rfl, sd, e2⟩, (Post.nox_out (rel := RelB) hh).mono ?_⟩
        rintro k H3 ⟨e, k', rfl, xe, se, rk, h3⟩
        cases rk
        have he := xe.kp D _ hd (notOwn sd)
        cases k with
        | true =>
          rw [Rz.bind_assoc] at h3
          refine iteT ⟨_, e, ρ2, ⟨rfl, se, e2.ext xe⟩, (Post.nox_out (rel := MR K mg _) h3).mono ?_⟩
          rintro z H4 ⟨u, m, rfl, xu, su, rz, h4⟩
          have hu := xu.kp D _ he (notOwn se)
          split at h4
          · rename_i hlen
            have ra' := MRs.ext (xd.trans (xe.trans xu)) ra
            obtain ⟨s5, mr5⟩ := SR.hid (o := .lst (ws ++ [z])) su (.inr rfl)
            refine ⟨ws, hu, by rw [← paired_len ra]; exact hlen, hl, ⟨u.i, u.S, upd u.H D (.lst (ws ++ [z]))⟩, acc ++ [m], ws ++ [z], rfl, ext0 (xc.trans (xd.trans (xe.trans xu))), s5, upd_same, (Paired.mapP ra' fun _ _ q => mr5 q).snoc (mr5 rz), h4⟩
          · exact (show False from h4).elim
        | false =>
          exact iteF ⟨hl, e, acc, ws, rfl, xc.trans (xd.trans xe), se, he, MRs.ext (xd.trans xe) ra, h3⟩
      · exact (show False from hh).elim
    · exact (show False from hh).elim
  · have e : i = ms.length := by omega
    subst e
    rw [List.drop_length] at hh
    unfold lcS at hh
    split at hh
    · rename_i hk
      exact .inl ⟨(wk _ c mo xc sc hk _).1 (Nat.le_refl _), hf N b c D acc ws _ Q xc hD sc nD hc ra hh⟩
    · exact (show False from hh).elim
def xYes : XT := fun _ S => .ok true S
theorem qts_nil {X : Cx} : PTs X [] (IT X.K X.mg W0 xYes) := ⟨fun pins s σ H Q I ⟨N, a, ρ, ⟨e, sr, en⟩, h⟩ => pts_nil.run pins s σ H Q I (by subst e; exact h a true rfl (.refl a) sr rfl)⟩
theorem qts_one {X : Cx} {c : Expr} {f : XT} (h : QT X W0 c f) : PTs X [c] (IT X.K X.mg W0 f) := pts_one h
theorem PG.toTg1 {X : Cx} {i : Nat} {e : Expr} (h : PG X e (gName i)) : PG X e (tgG X.K (.one i)) := h
/-- [elt for target in iter if ..], as a value -/
theorem qe_lc {fin : List Mv → Sto → Rz Mv} {elt tg iter : Expr} {ifs : List Expr} {scope : Scope} {own : List (Str × Nat)} {pos : Pos} {f : XI} {t : Tg} {tt : XT} {te : XE} (hf : FinOk X.K X.mg fin) (hc : X.calm = true) (hN : X.N.Nodup) (ok : BlkOk X.N X.env.scope scope own) (ho : own.map (·.2) = t.ix) (hi : QI X W tg iter f)
    (hg : ∀ (s : Shared) (H : Hp) (C : Addr) (cl : List (Str × Addr)) (fp : List Addr), PG (X.blk s H scope (compEnvC scope cl C X.env) fp) tg (tgG X.K t)) (ht : ∀ (s : Shared) (H : Hp) (C : Addr) (cl : List (Str × Addr)) (fp : List Addr), PTs (X.blk s H scope (compEnvC scope cl C X.env) fp) ifs (IT X.K X.mg W0 tt))
    (he : ∀ (s : Shared) (H : Hp) (C : Addr) (cl : List (Str × Addr)) (fp : List Addr), QE (X.blk s H scope (compEnvC scope cl C X.env) fp) W0 elt te) (hs : ∀ x, foldedSetIterable iter X.env x = pure x := by intro _; rfl) :
    QE X W (.ListComp elt [⟨tg, iter, ifs, 0⟩] scope pos) (eLc fin f t tt te) := by
  have h := pe_lc (pos := pos) (te := IE X.K X.mg W0 te) hc hN hi ok hg ht he hs
  rw [ho] at h
  exact PE.weak h (lc_read hf)
/-- y = [..] -/
theorem qs_setLc {fin : List Mv → Sto → Rz Mv} {i : Nat} {y : Str} {py : Pos} {elt tg iter : Expr} {ifs : List Expr} {scope : Scope} {own : List (Str × Nat)} {pos spos : Pos} {f : XI} {t : Tg} {tt : XT} {te : XE} (hf : FinOk X.K X.mg fin) (hc : X.calm = true) (hN : X.N.Nodup) (ok : BlkOk X.N X.env.scope scope own) (ho : own.map (·.2) = t.ix) (hi : QI X W tg iter f)
    (hg : ∀ (s : Shared) (H : Hp) (C : Addr) (cl : List (Str × Addr)) (fp : List Addr), PG (X.blk s H scope (compEnvC scope cl C X.env) fp) tg (tgG X.K t)) (ht : ∀ (s : Shared) (H : Hp) (C : Addr) (cl : List (Str × Addr)) (fp : List Addr), PTs (X.blk s H scope (compEnvC scope cl C X.env) fp) ifs (IT X.K X.mg W0 tt))
    (he : ∀ (s : Shared) (H : Hp) (C : Addr) (cl : List (Str × Addr)) (fp : List Addr), QE (X.blk s H scope (compEnvC scope cl C X.env) fp) W0 elt te) (hy : X.N[i]? = some y := by rfl) (hyl : X.env.scope.names.lookup y = some .local := by rfl)
    (hsw : swapsWith (.ListComp elt [⟨tg, iter, ifs, 0⟩] scope pos) (some (.Name y py)) spos.line X.env = pure true := by exact sw_true rfl rfl rfl (by decide +kernel)) (hs : ∀ x, foldedSetIterable iter X.env x = pure x := by intro _; rfl) :
    QS X W (.Assign [.Name y py] (.ListComp elt [⟨tg, iter, ifs, 0⟩] scope pos) spos) (sSet i (eLc fin f t tt te)) := by
  have h := ps_setLc (py := py) (pos := pos) (spos := spos) (te := IE X.K X.mg W0 te) hc hN hy hyl hsw hi ok hg ht he hs
  rw [ho] at h
  refine PS.weak h ?_
  rintro D σ H ⟨N, a, ρ, ⟨rfl, sr, en⟩, h⟩
  refine lc_read hf σ _ _ ⟨N, a, ρ, ⟨rfl, sr, en⟩, (PostS.thn_out (rel := MR X.K X.mg N) en h).mono ?_⟩
  rintro v H1 ⟨b, m, rfl, x, sb, r, h1⟩
  exact h1 b _ rfl (.refl b) sb ((en.ext x).set i r)
end
end MK

/-! MK, part 6: what operators, calls and methods do, by values. -/
namespace MK
open PySem L2
/-! ### operators of ints -/
def fInt (C : Int → Int → Bool) (g : Int → Int → Dv) : Mv → Mv → Sto → Rz Mv
  | .val (.int i), .val (.int j), S => if C i j then .ok (.val (g i j)) S else .stuck
  | _, _, _ => .stuck
section
variable {X : Cx}
theorem fInt_ok {K : PySem.W.Frag} {mg : Str → Option Value} {C : Int → Int → Prop} {Cb : Int → Int → Bool} {v : Int → Int → V} {g : Int → Int → Dv} (hC : ∀ i j, Cb i j = true → C i j) (hg : ∀ i j, flat1 (g i j) = some (v i j)) : BinOk K mg (rI C v) (fInt Cb g) := by
  intro N a x y u w W Q sr rx ry h
  unfold fInt at h
  split at h
  · rename_i i j
    split at h
    · rename_i hc
      exact ⟨i, j, MR.int rx, MR.int ry, hC i j hc, Post.okv sr h (.flat (hg i j))⟩
    · exact h.elim
  · exact h.elim
theorem fInt_ok0 {K : PySem.W.Frag} {mg : Str → Option Value} {v : Int → Int → V} {g : Int → Int → Dv} (hg : ∀ i j, flat1 (g i j) = some (v i j)) : BinOk K mg (rI0 v) (fInt (fun _ _ => true) g) := by
  intro N a x y u w W Q sr rx ry h
  unfold fInt at h
  split at h
  · rename_i i j
    simp only [if_true] at h
    exact ⟨i, j, MR.int rx, MR.int ry, Post.okv sr h (.flat (hg i j))⟩
  · exact h.elim
abbrev fSub := fInt (fun _ _ => true) fun i j => .int (i - j)
theorem o_sub : OpR X (binaryOp .Sub) (rI0 fun i j => .int (i - j)) ∧ BinOk X.K X.mg (rI0 fun i j => .int (i - j)) fSub := ⟨op_sub, fInt_ok0 fun _ _ => rfl⟩
abbrev fDiv := fInt (fun _ j => decide (0 < j ∧ j < 1073741824)) fun i j => .int (i / j)
theorem o_div : OpR X (binaryOp .FloorDiv) (rI CDiv fun i j => .int (i / j)) ∧ BinOk X.K X.mg (rI CDiv fun i j => .int (i / j)) fDiv := ⟨op_fdiv, fInt_ok (fun i j h => by simpa [CDiv] using h) fun _ _ => rfl⟩
abbrev fMod := fInt (fun _ j => decide (0 < j)) fun i j => .int (i % j)
theorem o_mod : OpR X (binaryOp .Mod) (rI (fun _ j => 0 < j) fun i j => .int (i % j)) ∧ BinOk X.K X.mg (rI (fun _ j => 0 < j) fun i j => .int (i % j)) fMod := ⟨op_mod, fInt_ok (fun i j h => by simpa using h) fun _ _ => rfl⟩
abbrev fMul := fInt (fun i j => decide ((-(2 ^ 64) < i ∧ i < 2 ^ 64) ∨ (-(2 ^ 64) < j ∧ j < 2 ^ 64))) fun i j => .int (i * j)
theorem o_mul : OpR X (binaryOp .Mult) (rI CMul fun i j => .int (i * j)) ∧ BinOk X.K X.mg (rI CMul fun i j => .int (i * j)) fMul := ⟨op_mul, fInt_ok (fun i j h => by simpa [CMul] using h) fun _ _ => rfl⟩
abbrev fPow := fInt (fun i j => decide (0 ≤ j ∧ j ≤ 1000000 ∧ i.natAbs < 2 ^ 64)) fun i j => .int (i ^ j.toNat)
theorem o_pow : OpR X (binaryOp .Pow) (rI CPow fun i j => .int (i ^ j.toNat)) ∧ BinOk X.K X.mg (rI CPow fun i j => .int (i ^ j.toNat)) fPow := ⟨op_pow, fInt_ok (fun i j h => by simpa [CPow] using h) fun _ _ => rfl⟩
abbrev fLt := fInt (fun _ _ => true) fun i j => .bl (decide (i < j))
theorem o_lt : OpR X (compareOp .Lt) (rI0 fun i j => .bl (decide (i < j))) ∧ BinOk X.K X.mg (rI0 fun i j => .bl (decide (i < j))) fLt := ⟨op_lt, fInt_ok0 fun _ _ => rfl⟩
abbrev fLe := fInt (fun _ _ => true) fun i j => .bl (decide (i ≤ j))
theorem o_le : OpR X (compareOp .LtE) (rI0 fun i j => .bl (decide (i ≤ j))) ∧ BinOk X.K X.mg (rI0 fun i j => .bl (decide (i ≤ j))) fLe := ⟨op_le, fInt_ok0 fun _ _ => rfl⟩
abbrev fGt := fInt (fun _ _ => true) fun i j => .bl (decide (j < i))
theorem o_gt : OpR X (compareOp .Gt) (rI0 fun i j => .bl (decide (j < i))) ∧ BinOk X.K X.mg (rI0 fun i j => .bl (decide (j < i))) fGt := ⟨op_gt, fInt_ok0 fun _ _ => rfl⟩
abbrev fGe := fInt (fun _ _ => true) fun i j => .bl (decide (j ≤ i))
theorem o_ge : OpR X (compareOp .GtE) (rI0 fun i j => .bl (decide (j ≤ i))) ∧ BinOk X.K X.mg (rI0 fun i j => .bl (decide (j ≤ i))) fGe := ⟨op_ge, fInt_ok0 fun _ _ => rfl⟩
def fNeg : Mv → Sto → Rz Mv
  | .val (.int i), S => .ok (.val (.int (-i))) S
  | _, _ => .stuck
theorem o_neg : UnR X (unaryOp .USub) (rU fun i => .int (-i)) ∧ UnOk X.K X.mg (rU fun i => .int (-i)) fNeg := by
  refine ⟨un_neg, fun N a x v W Q sr rx h => ?_⟩
  unfold fNeg at h
  split at h
  · exact ⟨_, MR.int rx, Post.okv sr h .int⟩
  · exact h.elim
/-- + -/
def fAdd : Mv → Mv → Sto → Rz Mv
  | .val (.int i), .val (.int j), S => .ok (.val (.int (i + j))) S
  | .val (.str x), .val (.str y), S => if x.length + y.length ≤ sizeLine then .ok (.val (.str (x ++ y))) S else .stuck
  | .val (.tup x), .val (.tup y), S => if x.length + y.length ≤ sizeLine then .ok (.val (.tup (x ++ y))) S else .stuck
  | _, _, _ => .stuck
def rStrAdd : R2 := fun x y H Q => ∃ i j, x = .str i ∧ y = .str j ∧ i.length + j.length ≤ sizeLine ∧ Q (.str (i ++ j)) H
def rAdd3 (K : PySem.W.Frag) : R2 := fun x y H Q => rI0 (fun i j => .int (i + j)) x y H Q ∨ rStrAdd x y H Q ∨ rCatA K x y H Q
theorem sT_append (x y : Tx) : sT x ++ sT y = sT (x ++ y) := by
  have : (sT x ++ sT y).cps = (sT (x ++ y)).cps := by
    show (sT x).cps ++ (sT y).cps = _
    simp [sT]
  cases h1 : sT x ++ sT y
  cases h2 : sT (x ++ y)
  rw [h1, h2] at this
  exact congrArg Str.mk this
theorem VRs.append {K : PySem.W.Frag} {mg : Str → Option Value} {F : Hp} : ∀ {xs ys : List Dv} {vs ws : List V}, VRs K mg F xs vs → VRs K mg F ys ws → VRs K mg F (xs ++ ys) (vs ++ ws)
  | _, _, _, _, .nil, h => h
  | _, _, _, _, .cons r t, h => .cons r (VRs.append t h)
theorem fAdd_ok {K : PySem.W.Frag} {mg : Str → Option Value} : BinOk K mg (rAdd3 K) fAdd := by
  intro N a x y u w W Q sr rx ry h
  unfold fAdd at h
  split at h
  · exact .inl ⟨_, _, MR.int rx, MR.int ry, Post.okv sr h .int⟩
  · split at h
    · rename_i hl
      refine .inr (.inl ⟨_, _, MR.str rx, MR.str ry, by simpa using hl, ?_⟩)
      rw [sT_append]
      exact Post.okv sr h .str
    · exact h.elim
  · split at h
    · rename_i xs ys _ hl
      cases rx with
      | tup hx tx =>
        cases ry with
        | tup hy ty =>
          rename_i p ws q ws2
          refine .inr (.inr ⟨_, _, _, _, rfl, rfl, Fz.sub.sqT hx, Fz.sub.sqT hy, by rw [← tx.length, ← ty.length]; exact hl, fun e => ?_, fun e e2 => ?_, fun e e2 p hp => ?_⟩)
          · subst e
            cases tx
            exact Post.okv sr h (.tup hy ty)
          · subst e2
            cases ty
            rw [List.append_nil] at h
            exact Post.okv sr h (.tup hx tx)
          · obtain ⟨ex, sr', fz⟩ := laid (o := .tup _) sr hp
            exact h ⟨a.i, a.S, upd a.H p _⟩ (.ref p) rfl ex sr' (VR.tup (SqT.of fz) ((tx.append ty).mono ex.fz))
    · exact h.elim
  · exact h.elim
theorem o_add : OpR X (binaryOp .Add) (rAdd3 X.K) ∧ BinOk X.K X.mg (rAdd3 X.K) fAdd := ⟨op_add.or (op_add_str.or op_catA), fAdd_ok⟩
/-- x += e -/
theorem pip_of {op : Operator} {r : R2} (h : OpR X (inplaceOp op) r) (hn : ∀ (a b : Value), True) (hp : (∀ (x y : Int), True) → PIp X op r) : PIp X op r := hp fun _ _ => trivial
/-! ### == and != of data -/
mutual
def toPy : Dv → Option PyData
  | .non => some .none
  | .bl b => some (.bool b)
  | .int i => some (.int i)
  | .str x => some (.str (sT x))
  | .tup ds => (toPys ds).map .tuple
  | .lst ds => (toPys ds).map .list
  | .dK _ | .dT _ | .ins _ _ => none
def toPys : List Dv → Option (List PyData)
  | [] => some []
  | d :: ds => (toPy d).bind fun p => (toPys ds).map (p :: ·)
end
mutual
theorem dp_of {K : PySem.W.Frag} {mg : Str → Option Value} {F H : Hp} (x : Sub F H) : ∀ {d : Dv} {v : V} {p : PyData}, VR K mg F d v → toPy d = some p → Dp K H v p
  | .non, _, _, .non, e => by cases e; exact .non
  | .bl b, _, _, .bl, e => by cases e; exact .bl b
  | .int b, _, _, .int, e => by cases e; exact .int b
  | .str b, _, _, .str, e => by cases e; exact .str _
  | .tup ds, _, _, .tup h t, e => by
    unfold toPy at e
    cases q : toPys ds with
    | none => rw [q] at e; cases e
    | some ps => rw [q] at e; cases e; exact .tup (x.sqT h) (dps_of x t q)
  | .lst ds, _, _, .lst h t, e => by
    unfold toPy at e
    cases q : toPys ds with
    | none => rw [q] at e; cases e
    | some ps => rw [q] at e; cases e; exact .lst (x.sqL h) (dps_of x t q)
  | .dK _, _, _, _, e => by simp [toPy] at e
  | .dT _, _, _, _, e => by simp [toPy] at e
  | .ins _ _, _, _, _, e => by simp [toPy] at e
theorem dps_of {K : PySem.W.Frag} {mg : Str → Option Value} {F H : Hp} (x : Sub F H) : ∀ {d : List Dv} {v : List V} {p : List PyData}, VRs K mg F d v → toPys d = some p → DpAll K H v p
  | [], _, _, .nil, e => by cases e; exact .nil
  | d :: ds, _, _, .cons r t, e => by
    unfold toPys at e
    cases q : toPy d with
    | none => rw [q] at e; cases e
    | some p =>
      cases q2 : toPys ds with
      | none => rw [q, q2] at e; cases e
      | some ps => rw [q, q2] at e; cases e; exact .cons (dp_of x r q) (dps_of x t q2)
end
/-- are they equal, as Python sees it -/
def eqD (d e : Dv) : Option Bool := (toPy d).bind fun p => (toPy e).bind fun q => if SeqAt.shaped p && SeqAt.shaped q then some (PyData.eqv p q) else none
def fEqq (neg : Bool) (x y : Mv) (S : Sto) : Rz Mv := match rfy 8 S x, rfy 8 S y with
  | some d, some e => match eqD d e with
    | some b => .ok (.val (.bl (b != neg))) S
    | none => .stuck
  | _, _ => .stuck
abbrev fEq := fEqq false
abbrev fNe := fEqq true
theorem eqD_ok {K : PySem.W.Frag} {mg : Str → Option Value} {N : Addr → Prop} {a : S3} {d e : Dv} {v w : V} {b : Bool} (rx : VR K mg (hide N a.H) d v) (ry : VR K mg (hide N a.H) e w) (h : eqD d e = some b) :
    ∃ p q, Dp K a.H v p ∧ Dp K a.H w q ∧ SeqAt.shaped p = true ∧ SeqAt.shaped q = true ∧ PyData.eqv p q = b := by
  unfold eqD at h
  cases q1 : toPy d with
  | none => rw [q1] at h; cases h
  | some p =>
    cases q2 : toPy e with
    | none => rw [q1, q2] at h; cases h
    | some q =>
      rw [q1, q2] at h
      simp only [Option.bind_some] at h
      split at h
      · rename_i hs
        cases h
        rw [Bool.and_eq_true] at hs
        exact ⟨p, q, dp_of hide_sub rx q1, dp_of hide_sub ry q2, hs.1, hs.2, rfl⟩
      · cases h
theorem fEqq_ok {K : PySem.W.Frag} {mg : Str → Option Value} (neg : Bool) : BinOk K mg (if neg then rNeD K else rEqD K) (fEqq neg) := by
  intro N a x y u w W Q sr rx ry h
  unfold fEqq at h
  split at h
  · rename_i d e e1 e2
    split at h
    · rename_i b eb
      obtain ⟨p, q, h1, h2, h3, h4, h5⟩ := eqD_ok (rfy_ok sr 8 rx e1) (rfy_ok sr 8 ry e2) eb
      cases neg with
      | false => exact ⟨p, q, h1, h2, h3, h4, by rw [h5]; simpa using Post.okv sr h .bl⟩
      | true => exact ⟨p, q, h1, h2, h3, h4, by rw [h5]; simpa using Post.okv sr h .bl⟩
    · exact h.elim
  · exact h.elim
theorem o_eq {k : Nat} (hr : Room k X.A) : OpR X (compareOp .Eq) (rEqD X.K) ∧ BinOk X.K X.mg (rEqD X.K) fEq := ⟨op_eqD hr.units, fEqq_ok false⟩
theorem o_ne {k : Nat} (hr : Room k X.A) : OpR X (compareOp .NotEq) (rNeD X.K) ∧ BinOk X.K X.mg (rNeD X.K) fNe := ⟨op_neD hr.units, fEqq_ok true⟩
/-- is None -/
def fIsN (neg : Bool) : Mv → Mv → Sto → Rz Mv
  | .val .non, .val .non, S => .ok (.val (.bl (!neg))) S
  | .val (.ins _ _), .val .non, S => .ok (.val (.bl neg)) S
  | .val (.bl _), .val .non, S => .ok (.val (.bl neg)) S
  | .val (.int _), .val .non, S => .ok (.val (.bl neg)) S
  | .val (.str _), .val .non, S => .ok (.val (.bl neg)) S
  | .val (.tup _), .val .non, S => .ok (.val (.bl neg)) S
  | .val (.lst _), .val .non, S => .ok (.val (.bl neg)) S
  | .val (.dK _), .val .non, S => .ok (.val (.bl neg)) S
  | .val (.dT _), .val .non, S => .ok (.val (.bl neg)) S
  | .loc _, .val .non, S => .ok (.val (.bl neg)) S
  | _, _, _ => .stuck
theorem fIsN_ok {K : PySem.W.Frag} {mg : Str → Option Value} (neg : Bool) : BinOk K mg (fun x y H Q => y = .non ∧ Q (.bl (decide (x = .non) != neg)) H) (fIsN neg) := by
  intro N a x y u w W Q sr rx ry h
  unfold fIsN at h
  split at h
  all_goals first
    | exact h.elim
    | (have e := MR.non ry
       subst e
       refine ⟨rfl, ?_⟩)
  · have e := MR.non rx
    subst e
    exact Post.okv sr h (by cases neg <;> exact .bl)
  all_goals first
    | (cases (show VR K mg (Fz N a) _ u from rx) <;> exact Post.okv sr h (by cases neg <;> exact .bl))
    | (obtain ⟨_, e⟩ := (show _ ∧ u = V.ref _ from rx)
       subst e
       exact Post.okv sr h (by cases neg <;> exact .bl))
theorem o_isN : OpR X (compareOp .Is) (fun x y H Q => y = .non ∧ Q (.bl (decide (x = .non) != false)) H) ∧ BinOk X.K X.mg (fun x y H Q => y = .non ∧ Q (.bl (decide (x = .non) != false)) H) (fIsN false) := by
  refine ⟨?_, fIsN_ok false⟩
  have e : (fun (x y : V) (H : Hp) (Q : VK) => y = .non ∧ Q (.bl (decide (x = .non) != false)) H) = (fun x y H Q => y = .non ∧ Q (.bl (decide (x = .non))) H) := by funext x y H Q; simp
  rw [e]; exact op_isN
theorem o_notN : OpR X (compareOp .IsNot) (fun x y H Q => y = .non ∧ Q (.bl (decide (x = .non) != true)) H) ∧ BinOk X.K X.mg (fun x y H Q => y = .non ∧ Q (.bl (decide (x = .non) != true)) H) (fIsN true) := by
  refine ⟨?_, fIsN_ok true⟩
  have e : (fun (x y : V) (H : Hp) (Q : VK) => y = .non ∧ Q (.bl (decide (x = .non) != true)) H) = (fun x y H Q => y = .non ∧ Q (.bl (!decide (x = .non))) H) := by funext x y H Q; simp
  rw [e]; exact op_notN
/-! ### texts: one sign in a text, order -/
def fInS (neg : Bool) : Mv → Mv → Sto → Rz Mv
  | .val (.str [c]), .val (.str z), S => .ok (.val (.bl (decide (c ∈ z) != neg))) S
  | _, _, _ => .stuck
theorem fInS_ok {K : PySem.W.Frag} {mg : Str → Option Value} (neg : Bool) : BinOk K mg (fun x y H Q => ∃ (c : Nat) (z : Str), x = .str ⟨#[c]⟩ ∧ y = .str z ∧ Q (.bl (decide (c ∈ z.cps.toList) != neg)) H) (fInS neg) := by
  intro N a x y u w W Q sr rx ry h
  unfold fInS at h
  split at h
  · refine ⟨_, _, MR.str rx, MR.str ry, ?_⟩
    rw [sT_cps]
    exact Post.okv sr h .bl
  · exact h.elim
theorem o_inS : OpR X (compareOp .In) (fun x y H Q => ∃ (c : Nat) (z : Str), x = .str ⟨#[c]⟩ ∧ y = .str z ∧ Q (.bl (decide (c ∈ z.cps.toList) != false)) H) ∧ BinOk X.K X.mg (fun x y H Q => ∃ (c : Nat) (z : Str), x = .str ⟨#[c]⟩ ∧ y = .str z ∧ Q (.bl (decide (c ∈ z.cps.toList) != false)) H) (fInS false) := by
  refine ⟨?_, fInS_ok false⟩
  have e : (fun (x y : V) (H : Hp) (Q : VK) => ∃ (c : Nat) (z : Str), x = .str ⟨#[c]⟩ ∧ y = .str z ∧ Q (.bl (decide (c ∈ z.cps.toList) != false)) H) = (fun x y H Q => ∃ (c : Nat) (z : Str), x = .str ⟨#[c]⟩ ∧ y = .str z ∧ Q (.bl (decide (c ∈ z.cps.toList))) H) := by funext x y H Q; simp
  rw [e]; exact op_in_sign
theorem o_notInS : OpR X (compareOp .NotIn) (fun x y H Q => ∃ (c : Nat) (z : Str), x = .str ⟨#[c]⟩ ∧ y = .str z ∧ Q (.bl (decide (c ∈ z.cps.toList) != true)) H) ∧ BinOk X.K X.mg (fun x y H Q => ∃ (c : Nat) (z : Str), x = .str ⟨#[c]⟩ ∧ y = .str z ∧ Q (.bl (decide (c ∈ z.cps.toList) != true)) H) (fInS true) := by
  refine ⟨?_, fInS_ok true⟩
  have e : (fun (x y : V) (H : Hp) (Q : VK) => ∃ (c : Nat) (z : Str), x = .str ⟨#[c]⟩ ∧ y = .str z ∧ Q (.bl (decide (c ∈ z.cps.toList) != true)) H) = (fun x y H Q => ∃ (c : Nat) (z : Str), x = .str ⟨#[c]⟩ ∧ y = .str z ∧ Q (.bl (!decide (c ∈ z.cps.toList))) H) := by funext x y H Q; simp
  rw [e]; exact op_notIn_sign
/-- s <= t -/
def fLeS : Mv → Mv → Sto → Rz Mv
  | .val (.str x), .val (.str y), S => .ok (.val (.bl (!decide (y < x)))) S
  | _, _, _ => .stuck
theorem o_leS : OpR X (compareOp .LtE) (fun x y H Q => ∃ i j, x = .str i ∧ y = .str j ∧ Q (.bl (!decide (j.cps.toList < i.cps.toList))) H) ∧ BinOk X.K X.mg (fun x y H Q => ∃ i j, x = .str i ∧ y = .str j ∧ Q (.bl (!decide (j.cps.toList < i.cps.toList))) H) fLeS := by
  refine ⟨op_le_str, fun N a x y u w W Q sr rx ry h => ?_⟩
  unfold fLeS at h
  split at h
  · refine ⟨_, _, MR.str rx, MR.str ry, ?_⟩
    rw [sT_cps, sT_cps]
    exact Post.okv sr h .bl
  · exact h.elim
/-! ### items -/
def fIx (x y : Mv) (S : Sto) : Rz Mv := match y with
  | .val (.int i) => match x with
    | .val (.str z) => if z.length ≤ sizeLine then (match atI z i with
      | some c => .ok (.val (.str [c])) S
      | none => .stuck) else .stuck
    | x => match seqOf S x with
      | some (_, ms) => (match atI ms i with
        | some m => .ok m S
        | none => .stuck)
      | none => .stuck
  | _ => .stuck
theorem atI_paired {α β : Type} {F : α → β → Prop} {xs : List α} {ys : List β} (h : Paired F xs ys) {i : Int} {x : α} (e : atI xs i = some x) : ∃ y, atI ys i = some y ∧ F x y := by
  unfold atI at e ⊢
  rw [← paired_len h]
  cases q : ixN xs.length i with
  | none => rw [q] at e; cases e
  | some j =>
    rw [q] at e
    exact paired_at h e
theorem fIx_seq {K : PySem.W.Frag} {mg : Str → Option Value} {N : Addr → Prop} {a : S3} {x : Mv} {u : V} {i : Int} {W : XK} {Q : VK} (sr : SR K mg N a) (rx : MR K mg N a x u)
    (h : Post (MR K mg N) K mg N a W Q (match seqOf a.S x with | some (_, ms) => (match atI ms i with | some m => Rz.ok m a.S | none => .stuck) | none => .stuck)) : rIx K u (.int i) a.H Q := by
  split at h
  · rename_i s ms e
    obtain ⟨p, ws, rfl, hs, t⟩ := seqOf_ok sr rx e
    split at h
    · rename_i m e2
      obtain ⟨v, e3, r⟩ := atI_paired t e2
      cases s with
      | l => exact .inl ⟨p, ws, i, v, rfl, rfl, hs, e3, Post.okm sr h r⟩
      | t => exact .inr (.inl ⟨p, ws, i, v, rfl, rfl, hs, e3, Post.okm sr h r⟩)
    · exact h.elim
  · exact h.elim
theorem fIx_ok {K : PySem.W.Frag} {mg : Str → Option Value} : BinOk K mg (rIx K) fIx := by
  intro N a x y u w W Q sr rx ry h
  unfold fIx at h
  split at h
  · have e := MR.int ry
    subst e
    split at h
    · have e := MR.str rx
      subst e
      split at h
      · rename_i hl
        split at h
        · rename_i c e2
          exact .inr (.inr ⟨_, _, c, rfl, rfl, by simpa using hl, by rw [sT_cps]; exact e2, Post.okv sr h .str⟩)
        · exact h.elim
      · exact h.elim
    · exact fIx_seq sr rx h
  · exact h.elim
theorem o_ix : IxR X (rIx X.K) ∧ BinOk X.K X.mg (rIx X.K) fIx := ⟨ix_seq, fIx_ok⟩
end
end MK

/-! MK, part 7: built-in functions and methods, slices, constants of the module. -/
namespace MK
open PySem L2
section
variable {X : Cx} {W : WX}
/-! ### len -/
def fLen : List Mv → Sto → Rz Mv
  | [.val (.str z)], S => if z.length ≤ sizeLine then .ok (.val (.int z.length)) S else .stuck
  | [x], S => match seqOf S x with
    | some (_, ms) => .ok (.val (.int ms.length)) S
    | none => .stuck
  | _, _ => .stuck
theorem o_len : CallR X (.builtin "len") (fun xs H Q => ∃ x n, xs = [x] ∧ LenV X.K x H n ∧ Q (.int n) H) ∧ MkOk X.K X.mg (fun xs H Q => ∃ x n, xs = [x] ∧ LenV X.K x H n ∧ Q (.int n) H) fLen := by
  refine ⟨call_len, fun N a xs vs W Q sr r h => ?_⟩
  unfold fLen at h
  split at h
  · obtain ⟨v, rfl, r1⟩ := paired1 r
    have e := MR.str r1
    subst e
    split at h
    · rename_i hl
      refine ⟨_, _, rfl, ⟨by simpa using hl, rfl⟩, ?_⟩
      rw [sT_length]
      exact Post.okv sr h .int
    · exact h.elim
  · obtain ⟨v, rfl, r1⟩ := paired1 r
    split at h
    · rename_i s ms e
      obtain ⟨p, ws, rfl, hs, t⟩ := seqOf_ok sr r1 e
      cases s with
      | l => exact ⟨_, _, rfl, .inl ⟨ws, hs, rfl⟩, by rw [← paired_len t]; exact Post.okv sr h .int⟩
      | t => exact ⟨_, _, rfl, .inr ⟨ws, hs, rfl⟩, by rw [← paired_len t]; exact Post.okv sr h .int⟩
    · exact h.elim
  · exact h.elim
/-! ### int, str, max -/
def fIntOf : List Mv → Sto → Rz Mv
  | [.val (.int i)], S => .ok (.val (.int i)) S
  | [.val (.bl b)], S => .ok (.val (.int (if b then 1 else 0))) S
  | [.val (.str x)], S => if x.length ≤ 640 then (match PySem.intText? (sT x) with
    | some n => .ok (.val (.int n)) S
    | none => .stuck) else .stuck
  | _, _ => .stuck
def rIntOf : List V → Hp → VK → Prop := fun xs H Q => ((∃ i, xs = [.int i] ∧ Q (.int i) H) ∨ ∃ k, xs = [.bl k] ∧ Q (.int (if k then 1 else 0)) H) ∨ ∃ a n, xs = [.str a] ∧ PySem.intText? a = some n ∧ a.length ≤ 640 ∧ Q (.int n) H
theorem o_int : CallR X (.type "int") rIntOf ∧ MkOk X.K X.mg rIntOf fIntOf := by
  refine ⟨call_int1.or call_int_str, fun N a xs vs W Q sr r h => ?_⟩
  unfold fIntOf at h
  split at h
  · obtain ⟨v, rfl, r1⟩ := paired1 r
    have e := MR.int r1
    subst e
    exact .inl (.inl ⟨_, rfl, Post.okv sr h .int⟩)
  · obtain ⟨v, rfl, r1⟩ := paired1 r
    have e := MR.bl r1
    subst e
    exact .inl (.inr ⟨_, rfl, Post.okv sr h .int⟩)
  · obtain ⟨v, rfl, r1⟩ := paired1 r
    have e := MR.str r1
    subst e
    split at h
    · rename_i hl
      split at h
      · rename_i n e
        exact .inr ⟨_, n, rfl, e, by simpa using hl, Post.okv sr h .int⟩
      · exact h.elim
    · exact h.elim
  · exact h.elim
/-- a number's digits -/
def dec (i : Int) : Tx := (Str.ofString (toString i)).cps.toList
theorem sT_dec (i : Int) : sT (dec i) = Str.ofString (toString i) := sT_of _
def fStr : List Mv → Sto → Rz Mv
  | [.val (.int i)], S => if i.natAbs.log2 < 1920 then .ok (.val (.str (dec i))) S else .stuck
  | [.val (.str x)], S => .ok (.val (.str x)) S
  | _, _ => .stuck
def rStrOf : List V → Hp → VK → Prop := fun xs H Q => (∃ i, xs = [.int i] ∧ i.natAbs.log2 < 1920 ∧ Q (.str (toString i)) H) ∨ ∃ a, xs = [.str a] ∧ Q (.str a) H
theorem o_str : CallR X (.type "str") rStrOf ∧ MkOk X.K X.mg rStrOf fStr := by
  refine ⟨call_str_int.or SkE.call_str_str, fun N a xs vs W Q sr r h => ?_⟩
  unfold fStr at h
  split at h
  · obtain ⟨v, rfl, r1⟩ := paired1 r
    have e := MR.int r1
    subst e
    split at h
    · rename_i i hl
      refine .inl ⟨_, rfl, hl, ?_⟩
      have := Post.okv sr h (v := .str (sT (dec i))) .str
      rw [sT_dec] at this
      exact this
    · exact h.elim
  · obtain ⟨v, rfl, r1⟩ := paired1 r
    have e := MR.str r1
    subst e
    exact .inr ⟨_, rfl, Post.okv sr h .str⟩
  · exact h.elim
def fMax2 : List Mv → Sto → Rz Mv
  | [.val (.int i), .val (.int j)], S => .ok (.val (.int (if j > i then j else i))) S
  | _, _ => .stuck
def fMin2 : List Mv → Sto → Rz Mv
  | [.val (.int i), .val (.int j)], S => .ok (.val (.int (if j < i then j else i))) S
  | _, _ => .stuck
theorem o_max2 (hc : X.calm = true) : CallR X (.builtin "max") (fun xs H Q => ∃ i j, xs = [.int i, .int j] ∧ Q (.int (if j > i then j else i)) H) ∧ MkOk X.K X.mg (fun xs H Q => ∃ i j, xs = [.int i, .int j] ∧ Q (.int (if j > i then j else i)) H) fMax2 := by
  refine ⟨call_max2 hc, fun N a xs vs W Q sr r h => ?_⟩
  unfold fMax2 at h
  split at h
  · obtain ⟨v, w, rfl, r1, r2⟩ := paired2 r
    have e := MR.int r1
    have e2 := MR.int r2
    subst e e2
    exact ⟨_, _, rfl, Post.okv sr h .int⟩
  · exact h.elim
theorem o_min2 (hc : X.calm = true) : CallR X (.builtin "min") (fun xs H Q => ∃ i j, xs = [.int i, .int j] ∧ Q (.int (if j < i then j else i)) H) ∧ MkOk X.K X.mg (fun xs H Q => ∃ i j, xs = [.int i, .int j] ∧ Q (.int (if j < i then j else i)) H) fMin2 := by
  refine ⟨call_min2 hc, fun N a xs vs W Q sr r h => ?_⟩
  unfold fMin2 at h
  split at h
  · obtain ⟨v, w, rfl, r1, r2⟩ := paired2 r
    have e := MR.int r1
    have e2 := MR.int r2
    subst e e2
    exact ⟨_, _, rfl, Post.okv sr h .int⟩
  · exact h.elim
/-! ### tuple(x), list(x) -/
def fTupOf : List Mv → Sto → Rz Mv
  | [x], S => match seqOf S x with
    | some (_, ms) => (match vals ms with
      | some ds => .ok (.val (.tup ds)) S
      | none => .stuck)
    | none => .stuck
  | _, _ => .stuck
theorem o_tuple : CallR X (.type "tuple") (fun xs H Q => ∃ p ys, xs = [.ref p] ∧ ((SqL X.K H p ys ∧ ∀ l, H l = none → Q (.ref l) (upd H l (.tup ys))) ∨ (SqT X.K H p ys ∧ Q (.ref p) H))) ∧
    MkOk X.K X.mg (fun xs H Q => ∃ p ys, xs = [.ref p] ∧ ((SqL X.K H p ys ∧ ∀ l, H l = none → Q (.ref l) (upd H l (.tup ys))) ∨ (SqT X.K H p ys ∧ Q (.ref p) H))) fTupOf := by
  refine ⟨call_tuple_of, fun N a xs vs W Q sr r h => ?_⟩
  unfold fTupOf at h
  split at h
  · rename_i x
    obtain ⟨v, rfl, r1⟩ := paired1 r
    cases q : seqOf a.S x with
    | none => rw [q] at h; exact (show False from h).elim
    | some p =>
      obtain ⟨s, ms⟩ := p
      rw [q] at h
      cases q2 : vals ms with
      | none => simp only [q2] at h; exact (show False from h).elim
      | some ds =>
        simp only [q2] at h
        obtain ⟨p, ws, rfl, hs, t⟩ := seqOf_ok sr r1 q
        have e := vals_some q2
        rw [e] at t
        cases s with
        | l =>
          refine ⟨p, ws, rfl, .inl ⟨hs, fun l hl => ?_⟩⟩
          obtain ⟨ex, sr', fz⟩ := laid (o := .tup ws) sr hl
          exact h ⟨a.i, a.S, upd a.H l _⟩ (.ref l) rfl ex sr' (VR.tup (SqT.of fz) ((paired_vals t).mono ex.fz))
        | t =>
          refine ⟨p, ws, rfl, .inr ⟨hs, ?_⟩⟩
          cases x with
          | loc k =>
            unfold seqOf at q
            simp only at q
            split at q <;> cases q
          | val d =>
            cases d with
            | tup ds' =>
              have e2 : ds' = ds := by
                have : some (Sq.t, ds'.map Mv.val) = some (Sq.t, ms) := q
                cases this
                rw [vals_map] at q2
                exact Option.some.inj q2
              subst e2
              exact Post.okm sr h r1
            | lst ds' => cases q
            | _ => cases q
  · exact h.elim
def fLstOf (mk : List Mv → Sto → Rz Mv) : List Mv → Sto → Rz Mv
  | [x], S => match seqOf S x with
    | some (_, ms) => mk ms S
    | none => .stuck
  | _, _ => .stuck
def rLstOf (K : PySem.W.Frag) : List V → Hp → VK → Prop := fun xs H Q => ∃ p ys, xs = [.ref p] ∧ (SqL K H p ys ∨ SqT K H p ys) ∧ ∀ l, H l = none → Q (.ref l) (upd H l (.lst ys))
/-- how a list is made new -/
def NewOk (K : PySem.W.Frag) (mg : Str → Option Value) (mk : List Mv → Sto → Rz Mv) : Prop := ∀ (N : Addr → Prop) (a : S3) (ms : List Mv) (ws : List V) (W : XK) (Q : VK), SR K mg N a → Paired (MR K mg N a) ms ws → Post (MR K mg N) K mg N a W Q (mk ms a.S) → ws.length ≤ sizeLine ∧ ∀ p, a.H p = none → Q (.ref p) (upd a.H p (.lst ws))
theorem newL {K : PySem.W.Frag} {mg : Str → Option Value} : NewOk K mg mkLst := fun _ _ _ _ _ _ => mkLst_ok
theorem newN {K : PySem.W.Frag} {mg : Str → Option Value} : NewOk K mg mkLoc := fun _ _ _ _ _ _ => mkLoc_ok
theorem o_list {mk : List Mv → Sto → Rz Mv} (hm : NewOk X.K X.mg mk) : CallR X (.type "list") (rLstOf X.K) ∧ MkOk X.K X.mg (rLstOf X.K) (fLstOf mk) := by
  refine ⟨call_list_of, fun N a xs vs W Q sr r h => ?_⟩
  unfold fLstOf at h
  split at h
  · obtain ⟨v, rfl, r1⟩ := paired1 r
    split at h
    · rename_i s ms e
      obtain ⟨p, ws, rfl, hs, t⟩ := seqOf_ok sr r1 e
      refine ⟨p, ws, rfl, ?_, (hm N a ms ws W Q sr t h).2⟩
      cases s with
      | l => exact .inl hs
      | t => exact .inr hs
    · exact h.elim
  · exact h.elim
/-! ### join -/
def strsD : List Dv → Option (List Tx)
  | [] => some []
  | .str x :: ds => (strsD ds).map (x :: ·)
  | _ => none
@[simp] theorem strsD_map (xs : List Tx) : strsD (xs.map .str) = some xs := by
  induction xs with
  | nil => rfl
  | cons x xs ih => simp [strsD, ih]
theorem strsD_some : ∀ {ds : List Dv} {xs : List Tx}, strsD ds = some xs → ds = xs.map .str
  | [], _, h => by cases h; rfl
  | .str x :: ds, xs, h => by
    unfold strsD at h
    cases q : strsD ds with
    | none => rw [q] at h; cases h
    | some ys => rw [q] at h; cases h; rw [strsD_some q]; rfl
  | .non :: _, _, h => by cases h
  | .bl _ :: _, _, h => by cases h
  | .int _ :: _, _, h => by cases h
  | .tup _ :: _, _, h => by cases h
  | .lst _ :: _, _, h => by cases h
  | .dK _ :: _, _, h => by cases h
  | .dT _ :: _, _, h => by cases h
  | .ins _ _ :: _, _, h => by cases h
theorem vrs_strs {K : PySem.W.Frag} {mg : Str → Option Value} {F : Hp} : ∀ {xs : List Tx} {vs : List V}, VRs K mg F (xs.map .str) vs → vs = (xs.map sT).map V.str
  | [], _, .nil => rfl
  | x :: xs, _, .cons r t => by cases r; rw [vrs_strs t]; rfl
def joinT (sep : Tx) : List Tx → Tx
  | [] => []
  | [x] => x
  | x :: y :: r => x ++ sep ++ joinT sep (y :: r)
def fJoin : Mv → List Mv → Sto → Rz Mv
  | .val (.str sep), [x], S => match seqOf S x with
    | some (_, ms) => (match vals ms with
      | some ds => (match strsD ds with
        | some xs => if (xs.map (·.length)).sum + xs.length * sep.length ≤ 16777216 then .ok (.val (.str (joinT sep xs))) S else .stuck
        | none => .stuck)
      | none => .stuck)
    | none => .stuck
  | _, _, _ => .stuck
theorem joinL_T (sep : Tx) : ∀ xs : List Tx, TL.joinL sep xs = joinT sep xs
  | [] => rfl
  | [x] => by simp [TL.joinL, joinT]
  | x :: y :: r => by
    have ih := joinL_T sep (y :: r)
    simp only [joinT, ← ih]
    simp [TL.joinL]
def rJoin (K : PySem.W.Frag) : V → List V → Hp → VK → Prop := fun x xs H Q => ∃ a p, ∃ ys : List Str, x = .str a ∧ xs = [.ref p] ∧ (SqL K H p (ys.map V.str) ∨ SqT K H p (ys.map V.str)) ∧
    (ys.map (·.length)).sum + ys.length * a.length ≤ 16777216 ∧ Q (.str (Txt.join a ys)) H
theorem join_sT (sep : Tx) (xs : List Tx) : Txt.join (sT sep) (xs.map sT) = sT (joinT sep xs) := by
  rw [TL.join_eq]
  have h := TL.tl_join (sT sep) (xs.map sT)
  have e1 : TL.tl (sT sep) = sep := sT_cps sep
  have e2 : (xs.map sT).map TL.tl = xs := by
    rw [List.map_map]
    have : (TL.tl ∘ sT) = id := by funext x; exact sT_cps x
    rw [this, List.map_id]
  rw [e1, e2, joinL_T] at h
  rw [← h]
  exact (sT_of _).symm
theorem o_join : MtR X "str.join" (rJoin X.K) ∧ MtOk X.K X.mg (rJoin X.K) fJoin := by
  refine ⟨mt_join, fun N a x v xs vs W Q sr rx r h => ?_⟩
  unfold fJoin at h
  split at h
  · rename_i sep y
    have e := MR.str rx
    subst e
    obtain ⟨v, rfl, r1⟩ := paired1 r
    cases q : seqOf a.S y with
    | none => rw [q] at h; exact (show False from h).elim
    | some p =>
      obtain ⟨s, ms⟩ := p
      rw [q] at h
      cases q2 : vals ms with
      | none => simp only [q2] at h; exact (show False from h).elim
      | some ds =>
        simp only [q2] at h
        cases q3 : strsD ds with
        | none => simp only [q3] at h; exact (show False from h).elim
        | some zs =>
          simp only [q3] at h
          split at h
          · rename_i hz
            obtain ⟨p, ws, rfl, hs, t⟩ := seqOf_ok sr r1 q
            have e := vals_some q2
            have e3 := strsD_some q3
            subst e e3
            have ew := vrs_strs (paired_vals t)
            subst ew
            refine ⟨sT sep, p, zs.map sT, rfl, rfl, ?_, ?_, ?_⟩
            · cases s with
              | l => exact .inl hs
              | t => exact .inr hs
            · have : (zs.map sT).map (·.length) = zs.map (·.length) := by
                rw [List.map_map]; exact List.map_congr_left fun x _ => sT_length x
              rw [this]
              simpa using hz
            · rw [join_sT]
              exact Post.okv sr h .str
          · exact h.elim
  · exact h.elim
/-! ### methods of lists in the store -/
def fAppend : Mv → List Mv → Sto → Rz Mv
  | .loc k, [y], S => match S[k]? with
    | some (.lst ms) => if ms.length < sizeLine then .ok (.val .non) (S.set k (.lst (ms ++ [y]))) else .stuck
    | _ => .stuck
  | _, _, _ => .stuck
theorem o_append : MtR X "list.append" rAppend ∧ MtOk X.K X.mg rAppend fAppend := by
  refine ⟨mt_append, fun N a x v xs vs W Q sr rx r h => ?_⟩
  unfold fAppend at h
  split at h
  · rename_i k y
    obtain ⟨hk, rfl⟩ := rx
    obtain ⟨w, rfl, r1⟩ := paired1 r
    split at h
    · rename_i ms e
      obtain ⟨ws, hw, t⟩ := sr.at_ k _ e
      split at h
      · rename_i hl
        refine ⟨_, ws, w, rfl, rfl, hw, by rw [← paired_len t]; exact hl, ?_⟩
        obtain ⟨ex, sr'⟩ := written (o := .lst (ws ++ [w])) (ob' := .lst (ms ++ [y])) sr e (by simp) (by simp) fun b x q => ⟨_, q, (MRs.ext x t).snoc (r1.ext x)⟩
        exact h _ _ rfl ex sr' VR.non
      · exact h.elim
    · exact h.elim
  · exact h.elim
def fPop : Mv → List Mv → Sto → Rz Mv
  | .loc k, [], S => match S[k]? with
    | some (.lst ms) => (match ms[ms.length - 1]? with
      | some y => .ok y (S.set k (.lst ms.dropLast))
      | none => .stuck)
    | _ => .stuck
  | _, _, _ => .stuck
theorem paired_dropLast {α β : Type} {F : α → β → Prop} : ∀ {xs : List α} {ys : List β}, Paired F xs ys → Paired F xs.dropLast ys.dropLast
  | _, _, .nil => .nil
  | _, _, .cons _ .nil => .nil
  | _, _, .cons r (.cons r2 t) => .cons r (paired_dropLast (.cons r2 t))
theorem o_pop : MtR X "list.pop" rPop ∧ MtOk X.K X.mg rPop fPop := by
  refine ⟨mt_pop, fun N a x v xs vs W Q sr rx r h => ?_⟩
  unfold fPop at h
  split at h
  · rename_i k
    obtain ⟨hk, rfl⟩ := rx
    cases r
    cases e : a.S[k]? with
    | none => rw [e] at h; exact (show False from h).elim
    | some ob =>
      rw [e] at h
      cases ob with
      | lst ms =>
        obtain ⟨ws, hw, t⟩ := sr.at_ k _ e
        cases e2 : ms[ms.length - 1]? with
        | none => simp only [e2] at h; exact (show False from h).elim
        | some y =>
          simp only [e2] at h
          obtain ⟨w, hw2, ry⟩ := paired_at t e2
          rw [paired_len t] at hw2
          refine ⟨_, ws, w, rfl, rfl, hw, hw2, ?_⟩
          obtain ⟨ex, sr'⟩ := written (o := .lst ws.dropLast) (ob' := .lst ms.dropLast) sr e (by simp) (by simp) fun b x q => ⟨_, q, paired_dropLast (MRs.ext x t)⟩
          exact h _ _ rfl ex sr' (ry.ext ex)
      | _ => exact (show False from h).elim
  · exact h.elim
/-- o[i] = v of a list in the store -/
def fSetL : Mv → Mv → Mv → Sto → Rz Unit
  | .loc k, .val (.int i), m, S => match S[k]? with
    | some (.lst ms) => (match ixN ms.length i with
      | some j => .ok () (S.set k (.lst (ms.set j m)))
      | none => .stuck)
    | _ => .stuck
  | _, _, _, _ => .stuck
theorem paired_set {α β : Type} {F : α → β → Prop} {x : α} {y : β} (r : F x y) : ∀ {xs : List α} {ys : List β} (j : Nat), Paired F xs ys → Paired F (xs.set j x) (ys.set j y)
  | _, _, _, .nil => .nil
  | _, _, 0, .cons _ t => .cons r t
  | _, _, j + 1, .cons q t => .cons q (paired_set r j t)
theorem o_setL : PSet X rSetL ∧ SetOk X.K X.mg rSetL fSetL := by
  refine ⟨set_list, fun N a o i mm v w x W Q sr ro ri rm h => ?_⟩
  unfold fSetL at h
  split at h
  · rename_i k i
    obtain ⟨hk, rfl⟩ := ro
    have e := MR.int ri
    subst e
    cases e : a.S[k]? with
    | none => rw [e] at h; exact (show False from h).elim
    | some ob =>
      rw [e] at h
      cases ob with
      | lst ms =>
        obtain ⟨ws, hw, t⟩ := sr.at_ k _ e
        cases e2 : ixN ms.length i with
        | none => simp only [e2] at h; exact (show False from h).elim
        | some j =>
          simp only [e2] at h
          refine ⟨_, ws, _, j, rfl, rfl, hw, by rw [← paired_len t]; exact e2, ?_⟩
          obtain ⟨ex, sr'⟩ := written (o := .lst (ws.set j x)) (ob' := .lst (ms.set j _)) sr e (by simp) (by simp) fun b y q => ⟨_, q, paired_set (rm.ext y) j (MRs.ext y t)⟩
          exact h _ () rfl ex sr' trivial
      | _ => exact (show False from h).elim
  · exact h.elim
/-! ### isinstance(e, T), T a built-in type -/
def tyN (S : Sto) : Mv → Option String
  | .val .non => some "NoneType"
  | .val (.bl _) => some "bool"
  | .val (.int _) => some "int"
  | .val (.str _) => some "str"
  | .val (.tup _) => some "tuple"
  | .val (.lst _) => some "list"
  | .loc k => match S[k]? with
    | some (.lst _) => some "list"
    | some (.dK _) => some "dict"
    | some (.dT _) => some "dict"
    | _ => none
  | _ => none
theorem tyN_ok {K : PySem.W.Frag} {mg : Str → Option Value} {N : Addr → Prop} {a : S3} {m : Mv} {v : V} {t : String} (sr : SR K mg N a) (r : MR K mg N a m v) (e : tyN a.S m = some t) : TyX K a.H v (.type t) := by
  cases m with
  | loc k =>
    obtain ⟨hk, rfl⟩ := r
    replace e : (match a.S[k]? with | some (.lst _) => some "list" | some (.dK _) => some "dict" | some (.dT _) => some "dict" | _ => none) = some t := e
    split at e
    · rename_i ms q
      obtain ⟨ws, h, _⟩ := sr.at_ k _ q
      cases e
      exact .base (.lst h)
    · rename_i ms q
      obtain ⟨ws, h, _⟩ := sr.at_ k _ q
      cases e
      exact .base (.dK h)
    · rename_i ms q
      obtain ⟨ws, h, _⟩ := sr.at_ k _ q
      cases e
      exact .base (.dT h)
    · cases e
  | val d =>
    cases d with
    | non => cases e; have e := MR.non r; subst e; exact .base .non
    | bl b => cases e; have e := MR.bl r; subst e; exact .base (.bl b)
    | int b => cases e; have e := MR.int r; subst e; exact .base (.int b)
    | str b => cases e; have e := MR.str r; subst e; exact .base (.str _)
    | tup ds =>
      cases e
      obtain ⟨p, ws, rfl, h, _⟩ := MR.tup r
      rcases h with (h | ⟨o, h⟩) | ⟨o, its, n, hk, hc, _⟩
      · exact .base (.tup h)
      · exact .fTuple h
      · exact .kTuple hk hc
    | lst ds =>
      cases e
      obtain ⟨p, ws, rfl, h, _⟩ := MR.lst r
      rcases h with (h | ⟨o, h⟩) | ⟨o, its, n, hk, hc, _⟩
      · exact .base (.lst h)
      · exact .base (.frz h)
      · exact .kList hk hc
    | _ => cases e
def isT (T t : String) : Bool := t == T || (t == "bool" && T == "int")
def eIsi (T : String) (f : XE) : XE := fun ρ S => (f ρ S).bind fun x S1 => match tyN S1 x with
  | some t => .ok (.val (.bl (isT T t))) S1
  | none => .stuck
/-- the types that isinstance is asked of -/
def isTs : List String := ["NoneType", "bool", "int", "str", "tuple", "list", "dict"]
theorem qe_isi {T : String} {x y : Str} {p p2 pos : Pos} {e : Expr} {f : XE} (hT : isTs.all (fun t => decide (kitB t T = some (isT T t))) = true := by decide +kernel) (hm : X.mg x = none) (hm2 : X.mg y = none) (he : QE X W e f)
    (hv2 : bootBuiltins y = some (.type T) := by decide +kernel) (hg : Gl X x := by rfl) (hg2 : Gl X y := by rfl) (hv : bootBuiltins x = some (.builtin "isinstance") := by decide +kernel) (hn2 : y ≠ "__name__" := by decide) (hdb2 : (y == ("__debug__" : Str)) = false := by decide)
    (hn : x ≠ "__name__" := by decide) (hdb : (x == ("__debug__" : Str)) = false := by decide)
    (hs1 : starEach [e, .Name y p2] X.env = (false, eval e X.env) :: starEach [.Name y p2] X.env := by rfl) (hs2 : starEach [.Name y p2] X.env = (false, eval (.Name y p2) X.env) :: starEach [] X.env := by rfl) (hpl : (backTo pos (starEach [.Name y p2] X.env)).any (·.1) = false := by rfl) :
    QE X W (.Call (.Name x p) [e, .Name y p2] [] pos) (eIsi T f) := by
  refine PE.weak (pe_callB call_isi hg hm hv (pa_cons he (pa_cons (pe_bltn (v := .ty T) hg2 hm2 hv2 rfl hn2 hdb2) pa_nil hs2) hs1) hn hdb hs1 hpl) ?_
  rintro σ H Q ⟨N, a, ρ, ⟨rfl, sr, en⟩, h⟩
  refine ⟨N, a, ρ, ⟨rfl, sr, en⟩, (Post.bind_out (rel := MR X.K X.mg N) h).mono ?_⟩
  rintro v H1 ⟨b, m, rfl, xx, sb, rm, h1⟩
  split at h1
  · rename_i t et
    have ht : t ∈ isTs := by
      cases m with
      | loc k =>
        replace et : (match b.S[k]? with | some (.lst _) => some "list" | some (.dK _) => some "dict" | some (.dT _) => some "dict" | _ => none) = some t := et
        split at et <;> cases et <;> decide
      | val d => cases d <;> cases et <;> decide
    have hk := of_decide_eq_true (List.all_eq_true.mp hT t ht)
    exact ⟨v, .ty T, .type t, .type T, isT T t, rfl, .ty T, tyN_ok sb rm et, kit_ty hk, Post.okv sb h1 .bl⟩
  · exact h1.elim
/-! ### slices -/
abbrev XO := List (Option Mv) → Sto → Rz (Option Int)
def RelO' (_ : S3) (a b : Option Int) : Prop := a = b
def IO (K : PySem.W.Frag) (mg : Str → Option Value) (W : WX) (f : XO) : TO := fun σ H Q => ∃ N a ρ, Rd3 K mg N a ρ σ H ∧ Post RelO' K mg N a (fun c d H' => W c d σ H') Q (f ρ a.S)
abbrev QO (X : Cx) (W : WX) (e : Option Expr) (f : XO) : Prop := PO X e (IO X.K X.mg W f)
theorem PO.weak {X : Cx} {e : Option Expr} {t u : TO} (h : PO X e t) (w : ∀ σ H Q, u σ H Q → t σ H Q) : PO X e u := ⟨fun pins s σ H Q I q => h.run pins s σ H Q I (w σ H Q q)⟩
def xoN : XO := fun _ S => .ok none S
def xoS (f : XE) : XO := fun ρ S => (f ρ S).bind fun m S1 => match m with
  | .val (.int i) => .ok (some i) S1
  | _ => .stuck
theorem qo_none : QO X W none xoN := by
  refine PO.weak po_none ?_
  rintro σ H Q ⟨N, a, ρ, ⟨rfl, sr, en⟩, h⟩
  exact h a none rfl (.refl a) sr rfl
theorem qo_some {e : Expr} {f : XE} (he : QE X W e f) : QO X W (some e) (xoS f) := by
  refine PO.weak (po_some he) ?_
  rintro σ H Q ⟨N, a, ρ, ⟨rfl, sr, en⟩, h⟩
  refine ⟨N, a, ρ, ⟨rfl, sr, en⟩, (Post.bind_out (rel := MR X.K X.mg N) h).mono ?_⟩
  rintro v H1 ⟨b, m, rfl, x, sb, r, h1⟩
  split at h1
  · exact ⟨_, MR.int r, h1 b _ rfl (.refl b) sb rfl⟩
  · exact h1.elim
/-- the places of a slice -/
def cut {α : Type} (xs : List α) (lo hi : Option Int) : List α := (xs.drop (HT.sIx xs.length 0 lo)).take (HT.sIx xs.length xs.length hi - HT.sIx xs.length 0 lo)
def fSl (mk : List Mv → Sto → Rz Mv) (x : Mv) (lo hi : Option Int) (S : Sto) : Rz Mv := match x with
  | .val (.str z) => if z.length ≤ sizeLine then .ok (.val (.str (cut z lo hi))) S else .stuck
  | .val (.tup ds) => .ok (.val (.tup (cut ds lo hi))) S
  | x => match seqOf S x with
    | some (.l, ms) => mk (cut ms lo hi) S
    | _ => .stuck
def rSlAll (K : PySem.W.Frag) : V → Option Int → Option Int → Hp → VK → Prop := fun x lo hi H Q => rSlS x lo hi H Q ∨ (rSlA K x lo hi H Q ∨ rSlL K x lo hi H Q)
theorem paired_drop {α β : Type} {F : α → β → Prop} : ∀ {xs : List α} {ys : List β} (n : Nat), Paired F xs ys → Paired F (xs.drop n) (ys.drop n)
  | _, _, 0, h => h
  | _, _, _ + 1, .nil => .nil
  | _, _, n + 1, .cons _ t => paired_drop n t
theorem paired_take {α β : Type} {F : α → β → Prop} : ∀ {xs : List α} {ys : List β} (n : Nat), Paired F xs ys → Paired F (xs.take n) (ys.take n)
  | _, _, 0, h => by simp; exact .nil
  | _, _, _ + 1, .nil => .nil
  | _, _, n + 1, .cons r t => .cons r (paired_take n t)
theorem paired_cut {α β : Type} {F : α → β → Prop} {xs : List α} {ys : List β} (h : Paired F xs ys) (lo hi : Option Int) : Paired F (cut xs lo hi) (cut ys lo hi) := by
  unfold cut
  rw [← paired_len h]
  exact paired_take _ (paired_drop _ h)
theorem VRs.iff {K : PySem.W.Frag} {mg : Str → Option Value} {F : Hp} : ∀ {ds : List Dv} {vs : List V}, VRs K mg F ds vs ↔ Paired (VR K mg F) ds vs
  | [], _ => ⟨fun h => by cases h; exact .nil, fun h => by cases h; exact .nil⟩
  | d :: ds, _ => ⟨fun h => by cases h with | cons r t => exact .cons r (VRs.iff.mp t), fun h => by cases h with | cons r t => exact .cons r (VRs.iff.mpr t)⟩
theorem cutV_eq (xs : List V) (lo hi : Option Int) : cutV xs lo hi = cut xs lo hi := rfl
theorem cutS_eq (z : Tx) (lo hi : Option Int) : cutS (sT z) lo hi = sT (cut z lo hi) := by
  unfold cutS cut
  rw [sT_cps, sT_length]
  rfl
def eSl (mk : List Mv → Sto → Rz Mv) (f : XE) (g h : XO) : XE := fun ρ S => (f ρ S).bind fun x S1 => (g ρ S1).bind fun lo S2 => (h ρ S2).bind fun hi S3 => fSl mk x lo hi S3
theorem qe_slice {mk : List Mv → Sto → Rz Mv} {e : Expr} {lo hi : Option Expr} {p2 pos : Pos} {f : XE} {g h : XO} (hm : NewOk X.K X.mg mk) (he : QE X W e f) (hl : QO X W lo g) (hu : QO X W hi h) : QE X W (.Subscript e (.Slice lo hi none p2) pos) (eSl mk f g h) := by
  refine PE.weak (pe_slice (sl_str.or (sl_tupA.or sl_list)) he hl hu) ?_
  rintro σ H Q ⟨N, a, ρ, ⟨rfl, sr, en⟩, h⟩
  refine ⟨N, a, ρ, ⟨rfl, sr, en⟩, (Post.bind_out (rel := MR X.K X.mg N) h).mono ?_⟩
  rintro v H1 ⟨b, m, rfl, x, sb, rm, h1⟩
  refine ⟨N, b, ρ, ⟨rfl, sb, en.ext x⟩, (Post.bind_out (rel := RelO') h1).mono ?_⟩
  rintro lo' H2 ⟨c, lo, rfl, y, sc, rl, h2⟩
  cases rl
  refine ⟨N, c, ρ, ⟨rfl, sc, (en.ext x).ext y⟩, (Post.bind_out (rel := RelO') h2).mono ?_⟩
  rintro hi' H3 ⟨d, hi, rfl, z, sd, rh, h3⟩
  cases rh
  have rm' := (rm.ext y).ext z
  cases m with
  | val dd =>
    cases dd with
    | str s =>
      have e := MR.str rm'
      subst e
      unfold fSl at h3
      simp only at h3
      split at h3
      · rename_i hl
        refine .inl ⟨_, rfl, by simpa using hl, ?_⟩
        rw [cutS_eq]
        exact Post.okv sd h3 .str
      · exact h3.elim
    | tup ds =>
      cases rm' with
      | tup hs t =>
        rename_i p ws
        refine .inr (.inl ⟨p, ws, rfl, Fz.sub.sqT hs, fun e => ?_, fun _ q hq => ?_⟩)
        · have : cut ds lo' hi' = ds := by
            unfold cut
            rw [t.length, e.1, e.2]
            simp only [Nat.sub_zero, List.drop_zero]
            rw [← t.length, List.take_length]
          have h3' : Post (MR X.K X.mg N) X.K X.mg N d (fun c d H' => W c d σ H') Q (.ok (.val (.tup (cut ds lo' hi'))) d.S) := h3
          rw [this] at h3'
          exact Post.okv sd h3' (.tup hs t)
        · obtain ⟨ex, sr', fz⟩ := laid (o := .tup (cutV ws lo' hi')) sd hq
          exact h3 ⟨d.i, d.S, upd d.H q _⟩ (.ref q) rfl ex sr' (VR.tup (SqT.of fz) ((VRs.iff.mpr (paired_cut (VRs.iff.mp t) _ _)).mono ex.fz))
    | lst ds =>
      obtain ⟨p, ws, rfl, hs, t⟩ := MR.lst rm'
      exact .inr (.inr ⟨p, ws, rfl, hs, (hm N d _ _ _ Q sd (paired_cut (VRs.paired t) _ _) h3).2⟩)
    | _ => exact (show False from h3).elim
  | loc k =>
    replace h3 : Post (MR X.K X.mg N) X.K X.mg N d (fun c d H' => W c d σ H') Q (match seqOf d.S (.loc k) with | some (.l, ms) => mk (cut ms lo' hi') d.S | _ => .stuck) := h3
    split at h3
    · rename_i ms e
      obtain ⟨p, ws, rfl, hs, t⟩ := seqOf_ok sd rm' e
      exact .inr (.inr ⟨p, ws, rfl, hs, (hm N d _ _ _ Q sd (paired_cut t _ _) h3).2⟩)
    · exact h3.elim
/-! ### a text walked -/
def iStrM (f : XE) : XI := fun ρ S => (f ρ S).bind fun m S1 => match m with
  | .val (.str x) => .ok (x.map fun c => .val (.str [c]), always) S1
  | _ => .stuck
theorem qi_str {tg l : Expr} {f : XE} (h : QE X W l f) : QI X W tg l (iStrM f) := by
  refine PI.weak (pi_str h) ?_
  rintro σ H R ⟨N, a, ρ, ⟨rfl, sr, en⟩, h⟩
  refine ⟨N, a, ρ, ⟨rfl, sr, en⟩, (Post.bind_out (rel := MR X.K X.mg N) h).mono ?_⟩
  rintro v H1 ⟨b, m, rfl, x, sb, r, h1⟩
  split at h1
  · rename_i z
    have e := MR.str r
    subst e
    refine ⟨_, rfl, h1 b _ rfl (.refl b) sb ?_⟩
    intro N' b' mo x' sb' _ i
    have hsz : (sT z).cps.size = z.length := by simp [sT]
    refine ⟨fun hi => show (sT z).cps.size ≤ i by rw [hsz]; simpa using hi, fun m hm => ?_⟩
    have hi : i < z.length := by
      have := (List.getElem?_eq_some_iff.mp hm).1
      simpa using this
    refine ⟨show i < (sT z).cps.size by rw [hsz]; exact hi, fun y H' hy => ?_⟩
    obtain ⟨rfl, c, hc, rfl⟩ := hy
    have e2 : z[i]? = some c := by simpa [sT] using hc
    have e3 : m = .val (.str [c]) := by
      rw [List.getElem?_map, e2] at hm
      exact (Option.some.inj hm).symm
    subst e3
    exact ⟨b', rfl, rfl, .refl b', sb', VR.str (x := [c])⟩
  · exact h1.elim
/-! ### constants of the module -/
theorem qe_globS {x : Str} {z : Tx} {pos : Pos} (hm : ∃ t, X.mg x = some (.str (sT z) t)) (hg : Gl X x := by rfl) (hd : (x == ("__debug__" : Str)) = false := by decide) : QE X W (.Name x pos) (eC (.str z)) := by
  obtain ⟨t, hm⟩ := hm
  exact qe_C (pe_glob (v := .str (sT z)) hg hm ⟨t, rfl⟩ hd) rfl
theorem qe_globI {x : Str} {i : Int} {pos : Pos} (hm : ∃ t, X.mg x = some (.int i t)) (hg : Gl X x := by rfl) (hd : (x == ("__debug__" : Str)) = false := by decide) : QE X W (.Name x pos) (eC (.int i)) := by
  obtain ⟨t, hm⟩ := hm
  exact qe_C (pe_glob (v := .int i) hg hm ⟨t, rfl⟩ hd) rfl
end
end MK

/-! MK, part 8: fields augmented and as targets, dicts of the module, keywords, the law's own end, repr. -/
namespace MK
open PySem L2
section
variable {X : Cx} {W : WX}
/-! ### fields -/
/-- o.f op= e -/
def sFldAug (c f : Str) (F : Mv → Mv → Sto → Rz Mv) (fo fe : XE) : XS := fun ρ S => (fo ρ S).thn ρ fun x S1 => match x with
  | .loc k => (match insOf S1 (.loc k) with
    | some (c', fs) => if c' = c then (match fs.lookup f with
      | some old => (fe ρ S1).thn ρ fun y S2 => (F old y S2).thn ρ fun z S3 => (match S3[k]? with
        | some (.ins c'' fs') => if c'' = c ∧ fs'.length < 1000 then .nx ρ (S3.set k (.ins c (putM f z fs'))) else .stuck
        | _ => .stuck)
      | none => .stuck) else .stuck
    | none => .stuck)
  | _ => .stuck
def InOkA (X : Cx) (op : Operator) (F : Mv → Mv → Sto → Rz Mv) : Prop := ∃ rd, InOp X op rd ∧ BinOk X.K X.mg rd F
theorem qs_fldaug {o e : Expr} {f c : Str} {pos tpos : Pos} {op : Operator} {F : Mv → Mv → Sto → Rz Mv} {fo fe : XE} {fld : List Str} (h : HasCls X.K X.mg c fld) (hop : InOkA X op F) (ho : QE X W o fo) (he : QE X W e fe) (hf : f ∈ fld := by decide) :
    QS X W (.AugAssign (.Attribute o f tpos) op e pos) (sFldAug c f F fo fe) := by
  obtain ⟨C, hC, cl, na⟩ := h.ex
  obtain ⟨rd, ho1, ho2⟩ := hop
  refine PS.weak (ps_fldaug ho he ho1) ?_
  rintro D σ H ⟨N, a, ρ, ⟨rfl, sr, en⟩, h⟩
  refine ⟨N, a, ρ, ⟨rfl, sr, en⟩, (PostS.thn_out (rel := MR X.K X.mg N) en h).mono ?_⟩
  rintro v H1 ⟨b, m, rfl, x, sb, rm, h1⟩
  split at h1
  · rename_i k
    split at h1
    · rename_i c' fs q
      split at h1
      · rename_i ec
        subst ec
        obtain ⟨p, C', dx, ws, ep, hp, hm, t⟩ := insOf_ok sb rm q
        rw [hC] at hm
        cases hm
        split at h1
        · rename_i old l
          obtain ⟨v0, l2, r0⟩ := (paired_lookup t).1 old l
          refine ⟨p, C, dx, ws, v0, ep, hp, cl, na f hf, l2, N, b, ρ, ⟨rfl, sb, en.ext x⟩, (PostS.thn_out (rel := MR X.K X.mg N) (en.ext x) h1).mono ?_⟩
          rintro y H2 ⟨d, my, rfl, x2, sd, ry, h2⟩
          refine ho2 N d old my v0 y _ _ sd (r0.ext x2) ry ((PostS.thn_out (rel := MR X.K X.mg N) ((en.ext x).ext x2) h2).mono ?_)
          rintro z H3 ⟨e', mz, rfl, x3, se, rz, h3⟩
          split at h3
          · rename_i c'' fs' q3
            split at h3
            · rename_i hc
              obtain ⟨rfl, hl⟩ := hc
              obtain ⟨C', dx', ws', hp', hm', t'⟩ := se.at_ k _ q3
              rw [hC] at hm'
              cases hm'
              have ek : e'.i k = p := by
                obtain ⟨hk, e1⟩ := rm
                rw [ep] at e1
                have e2 : p = b.i k := V.ref.inj e1
                rw [(x2.trans x3).ag k hk, e2]
              rw [ek] at hp'
              refine ⟨dx', ws', hp', by rw [← paired_len t']; exact hl, ?_⟩
              obtain ⟨ex, sr'⟩ := written (o := .ins C dx' (putF f z ws')) (ob' := .ins c'' (putM f mz fs')) se q3 (by simp) (by simp) fun b' xb q' => ⟨C, dx', _, q', hC, paired_put (rz.ext xb) (MRps.ext xb t')⟩
              rw [ek] at ex sr'
              exact h3 _ σ rfl ex sr' ((((en.ext x).ext x2).ext x3).ext ex)
            · exact h3.elim
          · exact h3.elim
        · exact h1.elim
      · exact h1.elim
    · exact h1.elim
  · exact h1.elim
theorem ina_add : InOkA X .Add (fInt (fun _ _ => true) fun i j => .int (i + j)) := ⟨L2.rAdd, in_add, fInt_ok0 (v := fun i j => .int (i + j)) fun _ _ => rfl⟩
theorem in_addI : InOk X .Add (fInt (fun _ _ => true) fun i j => .int (i + j)) := ⟨_, ip_add, fInt_ok0 (v := fun i j => .int (i + j)) fun _ _ => rfl⟩
abbrev fAddI := fInt (fun _ _ => true) fun i j => .int (i + j)
/-- o.f as a target -/
def tgFld (c f : Str) (fo : XE) : XG := fun m ρ S => (fo ρ S).thn ρ fun x S1 => match x with
  | .loc k => (match S1[k]? with
    | some (.ins c' fs) => if c' = c ∧ fs.length < 1000 then .nx ρ (S1.set k (.ins c (putM f m fs))) else .stuck
    | _ => .stuck)
  | _ => .stuck
theorem qg_fld {o : Expr} {f c : Str} {pos : Pos} {fo : XE} {fld : List Str} (h : HasCls X.K X.mg c fld) (ho : QE X W o fo) (hf : f ∈ fld := by decide) : QG X W (.Attribute o f pos) (tgFld c f fo) := by
  obtain ⟨C, hC, cl, na⟩ := h.ex
  refine ⟨fun pins s σ H v u Q I r hw => ?_⟩
  obtain ⟨N, a, ρ, m, ⟨rfl, sr, en⟩, rm, h⟩ := hw
  rw [assign_Attribute]
  refine wpAny_bind (wpAny_holding (thn (ho.run pins s σ _ _ I ⟨N, a, ρ, ⟨rfl, sr, en⟩, PostS.thn_out (rel := MR X.K X.mg N) en h⟩) fun ov s1 hh => ?_))
  obtain ⟨x, H1, I1, rx, b, mo, rfl, xb, sb, ro, h1⟩ := hh
  split at h1
  · rename_i k
    obtain ⟨hk, rfl⟩ := ro
    split at h1
    · rename_i c' fs q
      split at h1
      · rename_i hc
        obtain ⟨rfl, hl⟩ := hc
        obtain ⟨C', dx, ws, hp, hm, t⟩ := sb.at_ k _ q
        rw [hC] at hm
        cases hm
        obtain rfl : ov = Value.ref (b.i k) := rx
        refine wpAny_bind (wpAny_standAt (wpAny_bind (wpAny_holding (setattr_ok I1 hp cl (na f hf) (by rw [← paired_len t]; exact hl) r fun s3 I3 => ?_))))
        obtain ⟨ex, sr'⟩ := written (o := .ins C dx (putF f v ws)) (ob' := .ins c' (putM f m fs)) sb q (by simp) (by simp) fun b' xb' q' => ⟨C, dx, _, q', hC, paired_put ((rm.ext xb).ext xb') (MRps.ext xb' t)⟩
        exact wpAny_release ⟨σ, _, I3, h1 _ σ rfl ex sr' ((en.ext xb).ext ex)⟩
      · exact h1.elim
    · exact h1.elim
  · exact h1.elim
/-! ### a dict of the module: texts to ints -/
def NsAs (K : PySem.W.Frag) (d : Addr) (kvs : List (Tx × Int)) : Prop := ∀ z : Tx, match kvs.lookup z with
  | some i => ∃ t, PySem.W.nsIn K d (sT z) = some (some (.int i t))
  | none => PySem.W.nsIn K d (sT z) = some none
structure HasKD (w : World) (K : PySem.W.Frag) (mg : Str → Option Value) (x : Str) (kvs : List (Tx × Int)) : Prop where
  ex : ∃ d es n, mg x = some (.ref d) ∧ KDict K w d es n ∧ NsAs K d kvs
theorem sT_beq (x y : Tx) : (sT x == sT y) = (y == x) := by
  by_cases h : x = y
  · subst h; simp
  · have h1 : (sT x == sT y) = false := beq_eq_false_iff_ne.mpr fun e => h (sT_inj e)
    have h2 : (y == x) = false := beq_eq_false_iff_ne.mpr fun e => h e.symm
    rw [h1, h2]
theorem nsAs_of {K : PySem.W.Frag} {d : Addr} {es : Array DictEntry} {n : Nat} {kvs : List (Tx × Int)} (h : K.lookup d = some ⟨.type "dict", none, .dict es n, #[]⟩) (p : Paired (fun (e : DictEntry) (p : Tx × Int) => ∃ t u, e.key = .str (sT p.1) t ∧ e.val = .int p.2 u) es.toList kvs) : NsAs K d kvs := by
  intro z
  have key : ∀ {l : List DictEntry} {kvs : List (Tx × Int)}, Paired (fun (e : DictEntry) (p : Tx × Int) => ∃ t u, e.key = .str (sT p.1) t ∧ e.val = .int p.2 u) l kvs →
      (match kvs.lookup z with
        | some i => ∃ t e, l.find? (·.key.isStr (sT z)) = some e ∧ e.val = .int i t
        | none => l.find? (·.key.isStr (sT z)) = none ∧ l.any (·.refKey) = false) := by
    intro l kvs p
    induction p with
    | nil => exact ⟨rfl, rfl⟩
    | @cons e q l kvs r t ih =>
      obtain ⟨tk, u, h1, h2⟩ := r
      obtain ⟨x, i⟩ := q
      have e1 : e.key.isStr (sT z) = (sT x == sT z) := by rw [h1]; rfl
      rw [sT_beq] at e1
      simp only [List.lookup]
      cases q2 : z == x with
      | true =>
        rw [q2] at e1
        exact ⟨u, e, by simp [List.find?, e1], h2⟩
      | false =>
        rw [q2] at e1
        have hr : e.refKey = false := by unfold DictEntry.refKey; rw [h1]
        revert ih
        simp only
        split
        · rintro ⟨t, e', h3, h4⟩
          exact ⟨t, e', by simp [List.find?, e1, h3], h4⟩
        · rintro ⟨h3, h4⟩
          exact ⟨by simp [List.find?, e1, h3], by simp [hr, h4]⟩
  have hk := key p
  unfold PySem.W.nsIn
  rw [h]
  split
  · rename_i i e
    rw [e] at hk
    obtain ⟨t, e', h3, h4⟩ := hk
    exact ⟨t, by simp [h3, h4]⟩
  · rename_i e
    rw [e] at hk
    simp [hk.1, hk.2]
def eInKD (kvs : List (Tx × Int)) (neg : Bool) (f : XE) : XE := fun ρ S => (f ρ S).bind fun m S1 => match m with
  | .val (.str z) => .ok (.val (.bl ((kvs.lookup z).isSome != neg))) S1
  | _ => .stuck
theorem qe_inKD {e : Expr} {x : Str} {p pos : Pos} {f : XE} {kvs : List (Tx × Int)} (h : HasKD X.w X.K X.mg x kvs) (he : QE X W e f) (hg : Gl X x := by rfl) (hd : (x == ("__debug__" : Str)) = false := by decide) (hm : behindInMarks .In (.Name x p) = false := by rfl) : QE X W (.Compare e [.In] [.Name x p] pos) (eInKD kvs false f) := by
  obtain ⟨d, es, n, hx, kd, ns⟩ := h.ex
  refine PE.weak (pe_cmpR (op_in_kd kd) he (pe_glob (v := .ref d) hg hx rfl hd) hm) ?_
  rintro σ H Q ⟨N, a, ρ, ⟨rfl, sr, en⟩, h⟩
  refine ⟨N, a, ρ, ⟨rfl, sr, en⟩, (Post.bind_out (rel := MR X.K X.mg N) h).mono ?_⟩
  rintro v H1 ⟨b, m, rfl, xb, sb, rm, h1⟩
  split at h1
  · rename_i z
    have e1 := MR.str rm
    subst e1
    have hz := ns z
    cases q : kvs.lookup z with
    | some i =>
      rw [q] at hz h1
      obtain ⟨t, hz⟩ := hz
      exact ⟨_, _, rfl, rfl, hz, Post.okv sb h1 .bl⟩
    | none =>
      rw [q] at hz h1
      exact ⟨_, _, rfl, rfl, hz, Post.okv sb h1 .bl⟩
  · exact h1.elim
theorem qe_notInKD {e : Expr} {x : Str} {p pos : Pos} {f : XE} {kvs : List (Tx × Int)} (h : HasKD X.w X.K X.mg x kvs) (he : QE X W e f) (hg : Gl X x := by rfl) (hd : (x == ("__debug__" : Str)) = false := by decide) (hm : behindInMarks .NotIn (.Name x p) = false := by rfl) : QE X W (.Compare e [.NotIn] [.Name x p] pos) (eInKD kvs true f) := by
  obtain ⟨d, es, n, hx, kd, ns⟩ := h.ex
  refine PE.weak (pe_cmpR (op_notIn_kd kd) he (pe_glob (v := .ref d) hg hx rfl hd) hm) ?_
  rintro σ H Q ⟨N, a, ρ, ⟨rfl, sr, en⟩, h⟩
  refine ⟨N, a, ρ, ⟨rfl, sr, en⟩, (Post.bind_out (rel := MR X.K X.mg N) h).mono ?_⟩
  rintro v H1 ⟨b, m, rfl, xb, sb, rm, h1⟩
  split at h1
  · rename_i z
    have e1 := MR.str rm
    subst e1
    have hz := ns z
    cases q : kvs.lookup z with
    | some i =>
      rw [q] at hz h1
      obtain ⟨t, hz⟩ := hz
      exact ⟨_, _, rfl, rfl, hz, Post.okv sb h1 .bl⟩
    | none =>
      rw [q] at hz h1
      exact ⟨_, _, rfl, rfl, hz, Post.okv sb h1 .bl⟩
  · exact h1.elim
def eIxKD (kvs : List (Tx × Int)) (f : XE) : XE := fun ρ S => (f ρ S).bind fun m S1 => match m with
  | .val (.str z) => (match kvs.lookup z with
    | some i => .ok (.val (.int i)) S1
    | none => .stuck)
  | _ => .stuck
theorem qe_ixKD {e : Expr} {x : Str} {p pos : Pos} {f : XE} {kvs : List (Tx × Int)} (h : HasKD X.w X.K X.mg x kvs) (he : QE X W e f) (hg : Gl X x := by rfl) (hd : (x == ("__debug__" : Str)) = false := by decide) (hs : PlainIx e := by exact fun _ _ => rfl) : QE X W (.Subscript (.Name x p) e pos) (eIxKD kvs f) := by
  obtain ⟨d, es, n, hx, kd, ns⟩ := h.ex
  refine PE.weak (pe_ix ix_kdict (pe_glob (v := .ref d) hg hx rfl hd) he hs) ?_
  rintro σ H Q ⟨N, a, ρ, ⟨rfl, sr, en⟩, h⟩
  refine ⟨N, a, ρ, ⟨rfl, sr, en⟩, (Post.bind_out (rel := MR X.K X.mg N) h).mono ?_⟩
  rintro v H1 ⟨b, m, rfl, xb, sb, rm, h1⟩
  split at h1
  · rename_i z
    have e1 := MR.str rm
    subst e1
    have hz := ns z
    split at h1
    · rename_i i q
      rw [q] at hz
      obtain ⟨t, hz⟩ := hz
      exact ⟨_, _, .int i, rfl, rfl, ⟨es, n, _, kd.at_, kd.lit, hz, ⟨t, rfl⟩⟩, Post.okv sb h1 .int⟩
    · exact h1.elim
  · exact h1.elim
/-! ### comparisons as tests -/
def xB (f : XE) : XT := fun ρ S => (f ρ S).bind fun m S1 => match m with
  | .val (.bl b) => .ok b S1
  | _ => .stuck
theorem qt_test {e : Expr} {t : TE} {f : XE} (h : PT X e (tTest t)) (w : ∀ σ H Q, IE X.K X.mg W f σ H Q → t σ H Q) : QT X W e (xB f) := by
  refine PT.weak h ?_
  rintro σ H Q ⟨N, a, ρ, ⟨rfl, sr, en⟩, h⟩
  refine w σ _ _ ⟨N, a, ρ, ⟨rfl, sr, en⟩, (Post.bind_out (rel := MR X.K X.mg N) h).mono ?_⟩
  rintro v H1 ⟨b, m, rfl, xb, sb, rm, h1⟩
  split at h1
  · exact ⟨_, MR.bl rm, h1 b _ rfl (.refl b) sb rfl⟩
  · exact h1.elim
theorem qt_cmp {a b : Expr} {pos : Pos} {op : CmpOp} {r : R2} {F : Mv → Mv → Sto → Rz Mv} {fa fb : XE} (ho : OpR X (compareOp op) r ∧ BinOk X.K X.mg r F) (ha : QE X W a fa) (hb : QE X W b fb) (hm : behindInMarks op b = false := by first | exact nobehind _ (by decide) (by decide) | rfl) :
    QT X W (.Compare a [op] [b] pos) (xB (eBin F fa fb)) := qt_test (pt_cmpR ho.1 ha hb hm) (bin_read ho.2)
theorem chain_read {K : PySem.W.Frag} {mg : Str → Option Value} {r r' : R2} {F G : Mv → Mv → Sto → Rz Mv} {fa fb fc : XE} (ho : BinOk K mg r F) (ho' : BinOk K mg r' G) (σ : St) (H : Hp) (Q : VK) (h : IE K mg W (eChain F G fa fb fc) σ H Q) : tChain r r' (IE K mg W fa) (IE K mg W fb) (IE K mg W fc) σ H Q := by
  obtain ⟨N, a, ρ, ⟨rfl, sr, en⟩, h⟩ := h
  refine ⟨N, a, ρ, ⟨rfl, sr, en⟩, (Post.bind_out (rel := MR K mg N) h).mono ?_⟩
  rintro v H1 ⟨b, m, rfl, x, sb, rm, h1⟩
  refine ⟨N, b, ρ, ⟨rfl, sb, en.ext x⟩, (Post.bind_out (rel := MR K mg N) h1).mono ?_⟩
  rintro w H2 ⟨c, m2, rfl, y, sc, rm2, h2⟩
  refine ho N c m m2 v w (fun c d H' => W c d σ H') _ sc (rm.ext y) rm2 ((Post.bind_out (rel := MR K mg N) h2).mono ?_)
  rintro z H3 ⟨d, m3, rfl, zx, sd, rm3, h3⟩
  split at h3
  · cases rm3
    refine ⟨true, rfl, iteT ⟨N, d, ρ, ⟨rfl, sd, (en.ext x).ext (y.trans zx)⟩, (Post.bind_out (rel := MR K mg N) h3).mono ?_⟩⟩
    rintro w' H4 ⟨e, m4, rfl, q, se, rm4, h4⟩
    exact ho' N e m2 m4 w w' _ Q se (rm2.ext (zx.trans q)) rm4 h4
  · cases rm3
    exact ⟨false, rfl, iteF (Post.okv sd h3 .bl)⟩
  · exact h3.elim
theorem qt_chain {a b c : Expr} {pos : Pos} {op op' : CmpOp} {r r' : R2} {F G : Mv → Mv → Sto → Rz Mv} {fa fb fc : XE} (ho : OpR X (compareOp op) r ∧ BinOk X.K X.mg r F) (ho' : OpR X (compareOp op') r' ∧ BinOk X.K X.mg r' G)
    (ha : QE X W a fa) (hb : QE X W b fb) (hc : QE X W c fc) (hm : lastMarks [op, op'] [b, c] = false := by with_unfolding_all rfl) : QT X W (.Compare a [op, op'] [b, c] pos) (xB (eChain F G fa fb fc)) := qt_test (pt_chain ho.1 ho'.1 ha hb hc hm) (chain_read ho.2 ho'.2)
theorem inKD_read {K : PySem.W.Frag} {mg : Str → Option Value} {d : Addr} {kvs : List (Tx × Int)} {f : XE} {neg : Bool} (ns : NsAs K d kvs) (σ : St) (H : Hp) (Q : VK) (h : IE K mg W (eInKD kvs neg f) σ H Q) :
    tOp (fun x y H Q => ∃ (z : Str) (r : Option Value), x = .str z ∧ y = .ref d ∧ PySem.W.nsIn K d z = some r ∧ Q (.bl (r.isSome != neg)) H) (IE K mg W f) (tC (.ref d)) σ H Q := by
  obtain ⟨N, a, ρ, ⟨rfl, sr, en⟩, h⟩ := h
  refine ⟨N, a, ρ, ⟨rfl, sr, en⟩, (Post.bind_out (rel := MR K mg N) h).mono ?_⟩
  rintro v H1 ⟨b, m, rfl, xb, sb, rm, h1⟩
  split at h1
  · rename_i z
    have e1 := MR.str rm
    subst e1
    have hz := ns z
    cases q : kvs.lookup z with
    | some i =>
      rw [q] at hz h1
      obtain ⟨t, hz⟩ := hz
      exact ⟨_, _, rfl, rfl, hz, Post.okv sb h1 .bl⟩
    | none =>
      rw [q] at hz h1
      exact ⟨_, _, rfl, rfl, hz, Post.okv sb h1 .bl⟩
  · exact h1.elim
theorem qt_inKD {e : Expr} {x : Str} {p pos : Pos} {f : XE} {kvs : List (Tx × Int)} (h : HasKD X.w X.K X.mg x kvs) (he : QE X W e f) (hg : Gl X x := by rfl) (hd : (x == ("__debug__" : Str)) = false := by decide) (hm : behindInMarks .In (.Name x p) = false := by rfl) : QT X W (.Compare e [.In] [.Name x p] pos) (xB (eInKD kvs false f)) := by
  obtain ⟨d, es, n, hx, kd, ns⟩ := h.ex
  refine qt_test (pt_cmpR (op_in_kd kd) he (pe_glob (v := .ref d) hg hx rfl hd) hm) fun σ H Q q => ?_
  have e1 : (fun (x y : V) (H : Hp) (Q : VK) => ∃ (z : Str) (r : Option Value), x = .str z ∧ y = .ref d ∧ PySem.W.nsIn X.K d z = some r ∧ Q (.bl r.isSome) H) = (fun x y H Q => ∃ (z : Str) (r : Option Value), x = .str z ∧ y = .ref d ∧ PySem.W.nsIn X.K d z = some r ∧ Q (.bl (r.isSome != false)) H) := by funext x y H Q; simp
  rw [e1]
  exact inKD_read ns σ H Q q
theorem qt_notInKD {e : Expr} {x : Str} {p pos : Pos} {f : XE} {kvs : List (Tx × Int)} (h : HasKD X.w X.K X.mg x kvs) (he : QE X W e f) (hg : Gl X x := by rfl) (hd : (x == ("__debug__" : Str)) = false := by decide) (hm : behindInMarks .NotIn (.Name x p) = false := by rfl) : QT X W (.Compare e [.NotIn] [.Name x p] pos) (xB (eInKD kvs true f)) := by
  obtain ⟨d, es, n, hx, kd, ns⟩ := h.ex
  refine qt_test (pt_cmpR (op_notIn_kd kd) he (pe_glob (v := .ref d) hg hx rfl hd) hm) fun σ H Q q => ?_
  have e1 : (fun (x y : V) (H : Hp) (Q : VK) => ∃ (z : Str) (r : Option Value), x = .str z ∧ y = .ref d ∧ PySem.W.nsIn X.K d z = some r ∧ Q (.bl (!r.isSome)) H) = (fun x y H Q => ∃ (z : Str) (r : Option Value), x = .str z ∧ y = .ref d ∧ PySem.W.nsIn X.K d z = some r ∧ Q (.bl (r.isSome != true)) H) := by funext x y H Q; simp
  rw [e1]
  exact inKD_read ns σ H Q q
/-! ### calls with keywords alone -/
abbrev QK (X : Cx) (W : WX) (kws : List Keyword) (g : XA) : Prop := PK X kws (IA X.K X.mg W g)
theorem PK.weak {X : Cx} {e : List Keyword} {t u : TA} (h : PK X e t) (w : ∀ σ H Q, u σ H Q → t σ H Q) : PK X e u := ⟨fun pos pins s σ H Q I q => h.run pos pins s σ H Q I (w σ H Q q)⟩
theorem qk_nil : QK X W [] aNil := by
  refine PK.weak pk_nil ?_
  rintro σ H Q ⟨N, a, ρ, ⟨rfl, sr, en⟩, h⟩
  exact h a [] rfl (.refl a) sr .nil
theorem qk_cons {nm : Option Str} {kpos : Pos} {e : Expr} {es : List Keyword} {f : XE} {g : XA} (ha : QE X W e f) (hr : QK X W es g) : QK X W (⟨nm, e, kpos⟩ :: es) (aCons f g) := by
  refine PK.weak (pk_cons ha hr) ?_
  rintro σ H Q ⟨N, a, ρ, ⟨rfl, sr, en⟩, h⟩
  refine ⟨N, a, ρ, ⟨rfl, sr, en⟩, (Post.bind_out (rel := MR X.K X.mg N) h).mono ?_⟩
  rintro v H1 ⟨b, m, rfl, x, sb, rm, h1⟩
  refine ⟨N, b, ρ, ⟨rfl, sb, en.ext x⟩, (Post.bind_out (rel := RelA X.K X.mg N) h1).mono ?_⟩
  rintro ws H2 ⟨c, ms, rfl, y, sc, rms, h2⟩
  exact h2 c _ rfl (.refl c) sc (.cons (rm.ext y) rms)
/-- the items at these places -/
def pick {α : Type} (l : List α) : List Nat → List α
  | [] => []
  | i :: is => match l[i]? with
    | some x => x :: pick l is
    | none => pick l is
theorem pick_paired {α β : Type} {F : α → β → Prop} {xs : List α} {ys : List β} (h : Paired F xs ys) : ∀ is : List Nat, Paired F (pick xs is) (pick ys is)
  | [] => .nil
  | i :: is => by
    unfold pick
    cases q : xs[i]? with
    | some x =>
      obtain ⟨y, h1, h2⟩ := paired_at h q
      rw [h1]
      exact .cons h2 (pick_paired h is)
    | none =>
      have : ys[i]? = none := by
        rw [List.getElem?_eq_none_iff] at q ⊢
        rw [← paired_len h]; exact q
      rw [this]
      exact pick_paired h is
/-- how keywords ks bind: the parameters' values are those at the places ix -/
structure HasFnK (P : Program) (w : World) (K : PySem.W.Frag) (mg : Str → Option Value) (base : Heap) (x : Str) (k : Nat) (sp : Sp) (ks : List Str) (ix : List Nat) : Prop where
  ex : ∃ f fd ps, FnOk P w K mg base (L2.CX P w) k f fd ps sp ∧ mg x = some (.ref f) ∧ PySem.W.keepIn K (.ref f) = true ∧ ∀ (s : Shared) (ws : List Value), K.In s.heap → ws.length = ks.length → BindsTo s fd ⟨[], ks.zip ws⟩ (ps.zip (pick ws ix))
def kwF (n : Nat) (ix : List Nat) (F : SFn) : SFn := fun ms S => if ms.length = n then F (pick ms ix) S else .stuck
theorem qe_callK {k : Nat} {x : Str} {p pos : Pos} {kws : List Keyword} {g : XA} {sp : Sp} {F : SFn} {ks : List Str} {ix : List Nat} (h : HasFnK X.prog X.w X.K X.mg X.base x k sp ks ix) (so : SpOk X.K X.mg sp F) (hr : Room k X.A) (tk : Takes X W) (hkw : QK X W kws g) (hl : kws.length = ks.length := by rfl)
    (hg : Gl X x := by rfl) (hall : (backToKw pos (keywordEach kws X.env)).all (·.1.isSome) = true := by rfl) (hks : (backToKw pos (keywordEach kws X.env)).filterMap (·.1) = ks := by rfl)
    (hdb : (x == ("__debug__" : Str)) = false := by decide)
    (hpl : ((backTo pos (starEach [] X.env)).any (·.1) || (backToKw pos (keywordEach kws X.env)).any (·.1.isNone)) = false := by rfl) :
    QE X W (.Call (.Name x p) [] kws pos) (eMk (kwF ks.length ix F) g) := by
  obtain ⟨f, fd, ps, FO, hm, hk, hb⟩ := h.ex
  refine ⟨fun pins s σ H Q I hw => ?_⟩
  obtain ⟨N, a, ρ, ⟨rfl, sr, en⟩, hw⟩ := hw
  refine wpAny_Call_Name_kw (ld_glob I hg hm ?_ hdb)
  refine PySem.W.callWith_KW0 (first := []) (h₀ := X.base) I.ok.mod.kin hk hall ?_ hpl
  refine thn (hkw.run pos pins s σ _ _ I ⟨N, a, ρ, ⟨rfl, sr, en⟩, Post.bind_out (rel := RelA X.K X.mg N) hw⟩) fun ws s2 hh => ?_
  obtain ⟨vs, H1, I1, rv, b, ms, rfl, xb, sb, rm, h1⟩ := hh
  refine ⟨I1.kIn, ?_⟩
  rw [hks]
  show wpAny _ _ (call (.ref f) ([] ++ []) (ks.zip ws)) _ _ _
  rw [List.append_nil]
  unfold kwF at h1
  split at h1
  · rename_i hlen
    have hw : ws.length = ks.length := by rw [← rv.length, ← paired_len rm]; exact hlen
    have rp : Vals (pick vs ix) (pick ws ix) := pick_paired rv ix
    have hsp := so N b _ _ _ Q sb (pick_paired rm ix) h1
    refine wpAny_call (codeAny_mono (FO.run X.A X.stack s2 b.H ⟨[], ks.zip ws⟩ (pick ws ix) (pick vs ix) Q (WE W σ) hr I1.env0 (hb s2 ws I1.kIn hw) rp hsp) fun r s' hq => ?_)
    cases r with
    | error e => exact passAt tk σ pins b.H s2 e s' I1 hq
    | ok fl =>
      cases fl with
      | ret u => exact I1.after hq
      | next => exact False.elim hq
      | brk => exact False.elim hq
      | cont => exact False.elim hq
  · exact h1.elim
/-! ### repr of data without dicts -/
/-- neither None nor a truth value -/
def rooted : PyData → Bool
  | .none => false
  | .bool _ => false
  | _ => true
def fRepr : List Mv → Sto → Rz Mv
  | [m], S => match rfy 8 S m with
    | some d => (match toPy d with
      | some p => if rooted p && p.showable && !p.hasDict && decide (p.depth ≤ 60) && decide (p.shown.length ≤ sizeLine) then .ok (.val (.str p.shown.cps.toList)) S else .stuck
      | none => .stuck)
    | none => .stuck
  | _, _ => .stuck
def rRepr (K : PySem.W.Frag) : List V → Hp → VK → Prop := fun xs H Q => ∃ v p, xs = [v] ∧ Dp K H v p ∧ rooted p = true ∧ p.showable = true ∧ p.hasDict = false ∧ p.depth ≤ 60 ∧ p.shown.length ≤ sizeLine ∧ Q (.str p.shown) H
theorem call_reprD {k : Nat} (hr : Room k X.A) (hg : X.A.guards = some []) : CallR X (.builtin "repr") (rRepr X.K) := by
  intro pins s σ H xs us Q I r h
  obtain ⟨v, p, rfl, hd, h0, h1, h2, h3, h4, q⟩ := h
  obtain ⟨u, rfl, ru⟩ := vals1 r
  obtain ⟨as, rd⟩ := Dp.reads I p v u hd ru
  have hu := hr.units
  cases rd with
  | none => cases h0
  | bool b => cases h0
  | int i t =>
    exact PySem.P.repr_of_int (by simpa [PyData.showable] using h1) ⟨.str _, H, I.tok _, ⟨_, rfl⟩, by simpa [PyData.shown] using q⟩
  | str x t =>
    have q' : Q (.str (reprText x)) H := by simpa [PyData.shown] using q
    have h4' : (reprText x).length ≤ sizeLine := by simpa [PyData.shown] using h4
    exact PySem.P.repr_of_str ⟨.str _, H, I.tok _, ⟨_, rfl⟩, q'⟩ h4'
  | list e1 e2 e3 e4 =>
    exact repr_of_reads' (Reads.list e1 e2 e3 e4) h1 (fun e => by rw [h2] at e; cases e) hg (by omega) (fun _ _ e => e) (fun h' u tk kk => ⟨.str _, H, I.kept (t' := tk) kk, ⟨_, rfl⟩, q⟩) h4
  | tuple e1 e2 e3 e4 =>
    exact repr_of_reads' (Reads.tuple e1 e2 e3 e4) h1 (fun e => by rw [h2] at e; cases e) hg (by omega) (fun _ _ e => e) (fun h' u tk kk => ⟨.str _, H, I.kept (t' := tk) kk, ⟨_, rfl⟩, q⟩) h4
  | dict => cases hd
theorem o_repr {k : Nat} (hr : Room k X.A) (hg : X.A.guards = some []) : CallR X (.builtin "repr") (rRepr X.K) ∧ MkOk X.K X.mg (rRepr X.K) fRepr := by
  refine ⟨call_reprD hr hg, fun N a xs vs W Q sr r h => ?_⟩
  unfold fRepr at h
  split at h
  · obtain ⟨v, rfl, r1⟩ := paired1 r
    split at h
    · rename_i d e
      split at h
      · rename_i p e2
        split at h
        · rename_i hc
          simp only [Bool.and_eq_true, Bool.not_eq_true', decide_eq_true_eq] at hc
          refine ⟨v, p, rfl, dp_of hide_sub (rfy_ok sr 8 r1 e) e2, hc.1.1.1.1, hc.1.1.1.2, hc.1.1.2, hc.1.2, hc.2, ?_⟩
          have := Post.okv sr h (v := .str (sT p.shown.cps.toList)) .str
          rw [sT_of] at this
          exact this
        · exact h.elim
      · exact h.elim
    · exact h.elim
  · exact h.elim
end
end MK

/-! MK, part 9: the law's own def, called by the claim itself (nothing is under way around it). -/
namespace MK
open PySem L2 PyProof.Rows
/-- the def at f, called by the claim's caller, keeps sp -/
def AtTop (P : Program) (w : World) (K : PySem.W.Frag) (mg : Str → Option Value) (base : Heap) (f : Addr) (fd : FuncData) (x : Str) (sp : Sp) : Prop :=
  ∀ (s : Shared) (H : Hp) (u : Value) (v : V) (Q : VK) (E : XK), Env0 P w K mg base callerA [] s H → BindsTo s fd ⟨[u], []⟩ [(x, u)] → RelV v u → sp [v] H Q E →
    codeAny (model P w) callerA (.call (.ref f) ⟨[u], []⟩) (CR (L2.CX P w) [] P w H s Q E) s
theorem atTop {P : Program} {w : World} {K : PySem.W.Frag} {mg : Str → Option Value} {base : Heap} {x qual arg : Str} {st : Stmt} {f : Addr} {fd : FuncData} {Ns : List Str} {k : Nat} {g : XS} (F : Fun K x qual st f fd) (S : FnScope Ns [arg] (defScope st)) (hr0 : Room (k + 1) callerA)
    (hb : ∀ (cdv : Value) (s : Shared) (H : Hp) (E : XK), Room k (callerA.deeper (envOfC qual (defScope st) s.heap.objs.size f cdv)) →
      QSs (cxOf (L2.CX P w) P w K mg base Ns qual (defScope st) f cdv callerA [] s H E) (WD E) (defBody st) g) :
    AtTop P w K mg base f fd arg (spS K mg (fnS 1 Ns.length g)) := by
  obtain ⟨oc, od, kV, doc, pm, an, cdv, ct, osl, rfl, lk, hcd⟩ := F.ex
  intro s H u v Q E e0 bnd rv hsp
  have inK : K.In s.heap := e0.mod.kin.keeps fun b o e => (e0.bs b o e).1
  have noLim : s.heap.NoLimit := e0.mod.nolimit.keeps fun b o e => (e0.bs b o e).1
  have slots : ∀ y ∈ ([arg] : List Str).zip [u], (defScope st).names.lookup y.1 = some .local ∨ ((defScope st).names.lookup y.1 = some .cell ∧ ((cellsFrom (s.heap.objs.size + 1) (defScope st).names []).lookup y.1).isSome = true) := by
    rintro ⟨n, z⟩ hy
    rcases S.par n (List.of_mem_zip hy).1 with q | q
    · exact .inl q
    · exact .inr ⟨q, PySem.W.cellsFrom_some _ _ _ (.inl q)⟩
  refine codeAny_call_function hr0.depth (inK _ _ lk) rfl S.co S.gen rfl (PySem.W.codeRec_of inK hcd) (bnd _ _ _ _ ?_)
  refine wpAny_newFunctionEnv_cells S.kind slots fun env he s1 xx => ?_
  subst he
  refine ⟨noLim.keeps xx.toInCall.keep, codeAny_func ?_⟩
  have body := hb cdv s H E (hr0.deeper _)
  obtain ⟨N, a, ms, ha, sr, rm, hpost⟩ := hsp
  subst ha
  have I0 : Inv (cxOf (L2.CX P w) P w K mg base Ns qual (defScope st) f cdv callerA [] s a.H E) [] (L2.start Ns [v]) a.H s1 := inv_start S hr0.hd e0 rfl (.cons rv .nil) xx
  unfold fnS at hpost
  split at hpost
  · rename_i hl
    have env0 : EnvR K mg N a (ms.map some ++ List.replicate (Ns.length - 1) none) (L2.start Ns [v]) := by
      have h := env_start rm 1 Ns.length hl
      unfold L2.start
      exact h
    refine wpAny_mono (body.run [] s1 (L2.start Ns [v]) a.H { nx := fun _ H' => Q .non H', rt := Q } I0 ⟨N, a, _, ⟨rfl, sr, env0⟩, postS_fin hpost⟩) (fun fl s' hs => ?_) fun e s' hs => hs
    cases fl with
    | ret z =>
      obtain ⟨v', σ', H', J, rz, q⟩ := hs
      exact ⟨v', H', J.os, J.bare, J.base, J.hok, rz, q⟩
    | next =>
      obtain ⟨σ', H', J, q⟩ := hs
      exact ⟨.non, H', J.os, J.bare, J.base, J.hok, rfl, q⟩
    | brk => obtain ⟨_, _, _, q⟩ := hs; exact q.elim
    | cont => obtain ⟨_, _, _, q⟩ := hs; exact q.elim
  · exact hpost.elim
/-- how the script may lie: as one of the module's own lists, or locked -/
theorem script_lies {P : Program} {w : World} {K : PySem.W.Frag} {s : Shared} {a : Addr} {us : List Value} {ns : List Int} (inK : K.In s.heap) (ha : s.heap.get? a = some { cls := .type "list", data := .seq us.toArray }) (hi : IntsAre us ns) (hl : ns.length ≤ sizeLine) :
    ∃ H : Hp, (∀ b o, H b = some o → b = a ∧ K.lookup a = none ∧ ∃ ob xs, o = .frz ob (.lst xs)) ∧ SqL K H a (ns.map V.int) ∧ HOk P w H s.heap := by
  have rv : Vals (ns.map V.int) us := vals_of_ints hi
  have ln := hi.length
  cases hk : K.lookup a with
  | some o =>
    have e := (inK a o hk).symm.trans ha
    have e' := Option.some.inj e
    subst e'
    refine ⟨(fun _ => none : Hp), fun b o h => ?_, Or.inr ⟨_, us.toArray, _, hk, rfl, rfl, rfl, by rw [List.size_toArray, ln]; exact hl, by simpa using rv⟩, fun b o h => ?_⟩
    · exact absurd h (by simp)
    · exact absurd h (by simp)
  | none =>
    refine ⟨upd (fun _ => none) a (.frz { cls := .type "list", data := .seq us.toArray } (.lst (ns.map V.int))), fun b o h => ?_, .inl (.inr ⟨_, upd_same⟩), fun b o h => ?_⟩
    · by_cases hb : b = a
      · subst hb
        rw [upd_same] at h
        exact ⟨rfl, rfl, _, _, (Option.some.inj h).symm⟩
      · rw [upd_ne hb] at h; cases h
    · by_cases hb : b = a
      · subst hb
        rw [upd_same] at h
        cases h
        exact ⟨ha, by rw [List.length_map]; exact hl, us, _, rv, ha⟩
      · rw [upd_ne hb] at h; cases h
theorem top_call {P : Program} {w : World} {K : PySem.W.Frag} {mg mb : Str → Option Value} {fa a : Addr} {fd : FuncData} {x : Str} {G : SFn} {s : Shared} {us : List Value} {ns : List Int}
    (inK : K.In s.heap) (hns : s.heap.Ns mainGlobals mg) (hb : s.heap.Ns builtinsNs mb) (hbb : ∀ x : Str, x ≠ "__name__" → mb x = bootBuiltins x) (hlim : s.heap.NoLimit) (hg : s.gens = #[])
    (ha : s.heap.get? a = some { cls := .type "list", data := .seq us.toArray }) (hi : IntsAre us ns) (hl : ns.length ≤ sizeLine)
    (F : ∀ base : Heap, K.In base → base.Ns mainGlobals mg → AtTop P w K mg base fa fd x (spS K mg G)) (hbind : ∀ (s : Shared) (u : Value), BindsTo s fd ⟨[u], []⟩ [(x, u)])
    (law : ∃ S', G [.val (.lst (ns.map .int))] [] = .ok (.val (.bl true)) S') :
    codeAny (model P w) callerA (.call (.ref fa) ⟨[.ref a], []⟩) (fun r s' => r = .ok (.ret (.bool true)) ∧ OldK s.heap s'.heap ∧ s'.os = s.os ∧ AllBare s'.gens) s := by
  obtain ⟨H, only, lies, hok⟩ := script_lies (P := P) (w := w) inK ha hi hl
  have out : ∀ {b : Addr} {o : Obj}, s.heap.get? b = some o → b ≠ a ∨ K.lookup a ≠ none → H b = none := fun {b o} e n => by
    cases q : H b with
    | none => rfl
    | some u =>
      obtain ⟨h1, h2, _⟩ := only b u q
      rcases n with n | n
      · exact (n h1).elim
      · exact (n h2).elim
  have stays : ∀ {b : Addr} {o : Obj}, s.heap.get? b = some o → H b = none → (hidT s.heap H).get? b = some o := fun e n => hidT_get e n
  have nsStays : ∀ {b : Addr} {m : Str → Option Value}, s.heap.Ns b m → (hidT s.heap H).Ns b m := fun {b m} ⟨o, es, ep, e, d, r⟩ => by
    refine ⟨o, es, ep, stays e ?_, d, r⟩
    cases q : H b with
    | none => rfl
    | some u =>
      obtain ⟨rfl, _, _⟩ := only b u q
      rw [ha] at e
      cases e
      cases d
  have inB : K.In (hidT s.heap H) := fun b o e => stays (inK b o e) (by
    cases q : H b with
    | none => rfl
    | some u =>
      obtain ⟨rfl, h2, _⟩ := only b u q
      rw [h2] at e; cases e)
  have mod : Mod K mg (hidT s.heap H) := ⟨inB, nsStays hns, ⟨mb, nsStays hb, hbb⟩, let ⟨mc, h1, h2⟩ := hlim; ⟨mc, nsStays h1, h2⟩⟩
  have e0 : Env0 P w K mg (hidT s.heap H) callerA [] s H := ⟨rfl, mod, fun b o e => of_hidT e, Nat.le_of_eq (hidT_size _ _), trivial, fun b hb => by simp [frs] at hb, hok, .of_eq hg⟩
  have promise : spS K mg G [.ref a] H (fun v _ => v = .bl true) (fun _ _ _ => False) := by
    refine ⟨fun _ => False, ⟨fun _ => 0, [], H⟩, [.val (.lst (ns.map .int))], rfl, sr_nil (fun _ h => h.elim) _, .cons (VR.lst (Sub.sqL (fun b o h => hide_some.mpr ⟨fun q => ?_, h⟩) lies) ?_) .nil, ?_⟩
    · rcases q with q | ⟨k, ob, e, _⟩
      · exact q
      · simp at e
    · have : ∀ l : List Int, VRs K mg (Fz (fun _ => False) ⟨fun _ => 0, [], H⟩) (l.map .int) (l.map V.int) := fun l => by
        induction l with
        | nil => exact .nil
        | cons i l ih => exact .cons .int ih
      exact this ns
    · obtain ⟨S', e⟩ := law
      show Post _ _ _ _ _ _ _ (G [.val (.lst (ns.map .int))] [])
      rw [e]
      intro b v _ _ _ r
      exact MR.bl r
  refine codeAny_mono (F _ inB (nsStays hns) s H (.ref a) (.ref a) _ _ e0 (hbind s (.ref a)) rfl promise) fun r s' h => ?_
  cases r with
  | error e =>
    obtain ⟨_, _, _, _, _, _, _, _, _, _, _, _, z⟩ := h
    exact z.elim
  | ok fl =>
    cases fl with
    | next => exact h.elim
    | brk => exact h.elim
    | cont => exact h.elim
    | ret u =>
      obtain ⟨v, H', os, bare, un, hok', rv, q⟩ := h
      have q' : v = .bl true := q
      subst q'
      obtain rfl : u = Value.bool true := rv
      refine ⟨rfl, OldK.of_keep fun b o e => ?_, os, bare⟩
      cases q : H b with
      | none => exact un.keep b o e q (by simp [frs]) (by simp)
      | some t =>
        obtain ⟨_, _, ob, xs, rfl⟩ := only b t q
        have z2 := un.frzs b ob _ q
        obtain ⟨e1, _⟩ := hok b _ q
        obtain ⟨e2, _⟩ := hok' b _ z2
        rw [e] at e1; cases e1
        exact e2
/-- the goal that the head leaves, from the law's own function -/
theorem walk_top {l : PySem.W.OpenLaw} {n : Nat} {q : Program} {loose : List Str} {XP : (Str → Option Value) → Heap → Prop} {YP : World → Heap → Prop} {d : DefRec} {K : Params → PySem.W.Frag} {x : Str} {G : SFn}
    (hn : l.most = some n) (hn2 : n ≤ sizeLine) (hdf : d.params.defaults = []) (hY : ∀ (w : World) (h : Heap), YP w h → (K w.params).In h)
    (F : ∀ (w : World) (mg : Str → Option Value) (fa : Addr) (h : Heap), (K w.params).In h → h.Ns mainGlobals mg → mg d.name = some (.ref fa) →
      ∃ fd : FuncData, (∀ (s : Shared) (u : Value), BindsTo s fd ⟨[u], []⟩ [(x, u)]) ∧ ∀ base : Heap, (K w.params).In base → base.Ns mainGlobals mg → AtTop l.prog w (K w.params) mg base fa fd x (spS (K w.params) mg G))
    (law : ∀ ns : List Int, ns.length ≤ n → ∃ S', G [.val (.lst (ns.map .int))] [] = .ok (.val (.bl true)) S') :
    PySem.W.WalkO q loose XP YP l.row.toRowW d [] (fun f vs => PySem.call f vs) := by
  refine Att.attach_call hn hdf fun w s0 s1 mg mb fa o pm cd doc a us ns Gr Y ho hd hcd hmg hobj hints hlen hg => ?_
  have inK := hY w _ Y
  obtain ⟨fd, hb, hF⟩ := F w mg fa _ inK Gr.T.g hmg
  exact top_call inK Gr.T.g Gr.T.b Gr.T.builtins Gr.T.nolimit hg hobj hints (Nat.le_trans hlen hn2) hF hb (law ns hlen)
end MK

/-! MK, part 10: where the defs stand; the rules for whole defs. -/
namespace MK
open PySem L2 PyProof.Rows
/-- the module's def x -/
structure DefAt (K : PySem.W.Frag) (mg : Str → Option Value) (x : Str) (st : Stmt) (ps : List Str) : Prop where
  ex : ∃ f fd, Fun K x x st f fd ∧ mg x = some (.ref f) ∧ Binds K fd ps []
structure MethAt (K : PySem.W.Frag) (mg : Str → Option Value) (c m qual : Str) (st : Stmt) (ps : List Str) : Prop where
  ex : ∃ C f fd, mg c = some (.ref C) ∧ Cls K C ∧ Meth K C m f ∧ Fun K m qual st f fd ∧ Binds K fd ps []
structure InitAt (K : PySem.W.Frag) (mg : Str → Option Value) (c qual : Str) (st : Stmt) (ps : List Str) : Prop where
  ex : ∃ C f fd, mg c = some (.ref C) ∧ Mk K C f ∧ Fun K "__init__" qual st f fd ∧ Binds K fd ps []
/-- the module's def x, that is called with the keywords ks alone, too -/
structure DefKwAt (K : PySem.W.Frag) (mg : Str → Option Value) (x : Str) (st : Stmt) (ps ks : List Str) (ix : List Nat) : Prop where
  ex : ∃ f fd, Fun K x x st f fd ∧ mg x = some (.ref f) ∧ Binds K fd ps [] ∧ ∀ (s : Shared) (ws : List Value), K.In s.heap → ws.length = ks.length → BindsTo s fd ⟨[], ks.zip ws⟩ (ps.zip (pick ws ix))
section
variable {P : Program} {w : World} {K : PySem.W.Frag} {mg : Str → Option Value} {base : Heap} {x c m qual : Str} {st : Stmt} {ps Ns ks : List Str} {ix : List Nat} {k : Nat} {g : XS}
theorem never_ok {sp : Sp} {f : Addr} {fd : FuncData} {CX : CXT} (h : ∀ vs H Q E, ¬ sp vs H Q E) : FnOk P w K mg base CX k f fd ps sp := ⟨fun vs H Q E q => (h vs H Q E q).elim, fun A outer s H args us vs Q E _ _ _ _ q => (h vs H Q E q).elim⟩
/-- the body of a def, read by g -/
abbrev Body (P : Program) (w : World) (K : PySem.W.Frag) (mg : Str → Option Value) (base : Heap) (Ns : List Str) (qual : Str) (st : Stmt) (k : Nat) (g : XS) : Prop :=
  ∀ (f : Addr) (cdv : Value) (A : Around) (outer : List Env) (s : Shared) (H : Hp) (E : XK), Room k (A.deeper (envOfC qual (defScope st) s.heap.objs.size f cdv)) →
    QSs (cxOf (L2.CX P w) P w K mg base Ns qual (defScope st) f cdv A outer s H E) (WD E) (defBody st) g
theorem hasP (D : DefAt K mg x st ps) (S : FnScope Ns ps (defScope st)) (hb : Body P w K mg base Ns x st k g) : HasFn P w K mg base x (k + 1) (spP K mg (fnP ps.length Ns.length g)) := by
  obtain ⟨f, fd, F, hm, b⟩ := D.ex
  exact ⟨f, fd, ps, ok_P F S (hb f), hm, F.kp, b⟩
theorem hasS (D : DefAt K mg x st ps) (S : FnScope Ns ps (defScope st)) (hb : Body P w K mg base Ns x st k g) : HasFn P w K mg base x (k + 1) (spS K mg (fnS ps.length Ns.length g)) := by
  obtain ⟨f, fd, F, hm, b⟩ := D.ex
  exact ⟨f, fd, ps, ok_S F S (hb f), hm, F.kp, b⟩
theorem hasP0 (D : DefAt K mg x st ps) : HasFn P w K mg base x k (spP K mg fun _ => .stuck) := by
  obtain ⟨f, fd, F, hm, b⟩ := D.ex
  exact ⟨f, fd, ps, never_ok fun _ _ _ _ ⟨_, _, _, _, h⟩ => h, hm, F.kp, b⟩
theorem hasS0 (D : DefAt K mg x st ps) : HasFn P w K mg base x k (spS K mg fun _ _ => .stuck) := by
  obtain ⟨f, fd, F, hm, b⟩ := D.ex
  exact ⟨f, fd, ps, never_ok fun _ _ _ _ ⟨_, _, _, _, _, _, h⟩ => h, hm, F.kp, b⟩
theorem hasM (D : MethAt K mg c m qual st ps) (S : FnScope Ns ps (defScope st)) (hb : Body P w K mg base Ns qual st k g) : HasMeth P w K mg base c m (k + 1) (spS K mg (fnS ps.length Ns.length g)) := by
  obtain ⟨C, f, fd, hC, cl, me, F, b⟩ := D.ex
  exact ⟨C, f, fd, ps, hC, cl, me, ok_S F S (hb f), b⟩
theorem hasMP (D : MethAt K mg c m qual st ps) (S : FnScope Ns ps (defScope st)) (hb : Body P w K mg base Ns qual st k g) : HasMeth P w K mg base c m (k + 1) (spP K mg (fnP ps.length Ns.length g)) := by
  obtain ⟨C, f, fd, hC, cl, me, F, b⟩ := D.ex
  exact ⟨C, f, fd, ps, hC, cl, me, ok_P F S (hb f), b⟩
theorem hasI (D : InitAt K mg c qual st ps) (S : FnScope Ns ps (defScope st)) (hb : Body P w K mg base Ns qual st k g) : HasInit P w K mg base c (k + 1) (spS K mg (fnS ps.length Ns.length g)) := by
  obtain ⟨C, f, fd, hC, mk, F, b⟩ := D.ex
  exact ⟨C, f, fd, ps, hC, mk, ok_S F S (hb f), b⟩
theorem DefKwAt.toDef (D : DefKwAt K mg x st ps ks ix) : DefAt K mg x st ps := by
  obtain ⟨f, fd, F, hm, b, _⟩ := D.ex
  exact ⟨f, fd, F, hm, b⟩
theorem hasPK (D : DefKwAt K mg x st ps ks ix) (S : FnScope Ns ps (defScope st)) (hb : Body P w K mg base Ns x st k g) : HasFn P w K mg base x (k + 1) (spP K mg (fnP ps.length Ns.length g)) ∧ HasFnK P w K mg base x (k + 1) (spP K mg (fnP ps.length Ns.length g)) ks ix := by
  obtain ⟨f, fd, F, hm, b, bk⟩ := D.ex
  have FO := ok_P (P := P) (w := w) (base := base) F S (hb f)
  exact ⟨⟨f, fd, ps, FO, hm, F.kp, b⟩, ⟨f, fd, ps, FO, hm, F.kp, bk⟩⟩
theorem hasPK0 (D : DefKwAt K mg x st ps ks ix) : HasFn P w K mg base x k (spP K mg fun _ => .stuck) ∧ HasFnK P w K mg base x k (spP K mg fun _ => .stuck) ks ix := by
  obtain ⟨f, fd, F, hm, b, bk⟩ := D.ex
  have FO : FnOk P w K mg base (L2.CX P w) k f fd ps (spP K mg fun _ => .stuck) := never_ok fun _ _ _ _ ⟨_, _, _, _, h⟩ => h
  exact ⟨⟨f, fd, ps, FO, hm, F.kp, b⟩, ⟨f, fd, ps, FO, hm, F.kp, bk⟩⟩
end
section
variable {X : Cx} {W : WX}
/-- over a list, a tuple or a text -/
def iAny (f : XE) : XI := fun ρ S => (f ρ S).bind fun m S1 => match m with
  | .val (.str x) => .ok (x.map fun c => .val (.str [c]), always) S1
  | .val (.tup ds) => .ok (ds.map .val, always) S1
  | .val (.lst ds) => .ok (ds.map .val, always) S1
  | .loc n => (match S1[n]? with
    | some (.lst ms) => .ok (ms, fun S => S[n]? = some (.lst ms)) S1
    | _ => .stuck)
  | _ => .stuck
theorem qi_any {tg l : Expr} {f : XE} (h : QE X W l f) : QI X W tg l (iAny f) := by
  refine ⟨fun pins s σ H R I q => ?_⟩
  obtain ⟨N, a, ρ, rd, q⟩ := q
  have useL : (iAny f ρ a.S = iSeq .l f ρ a.S) → wpAny (model X.prog X.w) X.A (eval l X.env) (fun v s1 => wpAny (model X.prog X.w) X.A (pyIter v) (PIE X pins σ tg R) X.xe s1) X.xe s := fun e =>
    (qi_list h).run pins s σ H R I ⟨N, a, ρ, rd, by rw [← e]; exact q⟩
  have useT : (iAny f ρ a.S = iSeq .t f ρ a.S) → wpAny (model X.prog X.w) X.A (eval l X.env) (fun v s1 => wpAny (model X.prog X.w) X.A (pyIter v) (PIE X pins σ tg R) X.xe s1) X.xe s := fun e =>
    (qi_tup h).run pins s σ H R I ⟨N, a, ρ, rd, by rw [← e]; exact q⟩
  have useS : (iAny f ρ a.S = iStrM f ρ a.S) → wpAny (model X.prog X.w) X.A (eval l X.env) (fun v s1 => wpAny (model X.prog X.w) X.A (pyIter v) (PIE X pins σ tg R) X.xe s1) X.xe s := fun e =>
    (qi_str h).run pins s σ H R I ⟨N, a, ρ, rd, by rw [← e]; exact q⟩
  have q0 := q
  unfold iAny at q0 useL useT useS
  unfold iSeq at useL useT
  unfold iStrM at useS
  cases e : f ρ a.S with
  | exn x S => exact useL (by rw [e]; rfl)
  | stuck => rw [e] at q0; exact q0.elim
  | ok m S =>
    cases m with
    | loc n =>
      refine useL ?_
      rw [e]
      simp only [Rz.bind_ok, seqOf]
      cases S[n]? with
      | none => rfl
      | some ob => cases ob <;> rfl
    | val d =>
      cases d with
      | str x => exact useS (by rw [e]; rfl)
      | tup ds => exact useT (by rw [e]; rfl)
      | lst ds => exact useL (by rw [e]; rfl)
      | _ => rw [e] at q0; exact (show False from q0).elim
end
end MK

/-! MK, part 11: the text's facts, from the head's. -/
namespace MK
open PySem L2 PyProof.Rows
section
variable {w : World} {K : PySem.W.Frag} {mg : Str → Option Value} {h : Heap} {x c m qual : Str} {st : Stmt} {ps ks : List Str} {ix : List Nat} {f C : Addr} {od an : Option Addr} {sl : Array (Option Value)} {oc kV dc pm cd ct : Value}
theorem mk_none (X : K.In h) (G : h.Ns mainGlobals mg) (a : PySem.W.nsIn K mainGlobals x = some none) : mg x = none := PySem.W.mg_none_of X G a
theorem mk_str {s : Str} {t : Tok} {z : Tx} (X : K.In h) (G : h.Ns mainGlobals mg) (a : PySem.W.nsIn K mainGlobals x = some (some (.str s t))) (e : s = sT z) : ∃ t, mg x = some (.str (sT z) t) := ⟨t, by rw [← e]; exact PySem.W.mg_of X G a⟩
theorem mk_int {i : Int} {t : Tok} (X : K.In h) (G : h.Ns mainGlobals mg) (a : PySem.W.nsIn K mainGlobals x = some (some (.int i t))) : ∃ t, mg x = some (.int i t) := ⟨t, PySem.W.mg_of X G a⟩
theorem mk_def (X : K.In h) (G : h.Ns mainGlobals mg) (a : PySem.W.nsIn K mainGlobals x = some (some (.ref f))) (l : K.lookup f = some ⟨oc, od, .func (PySem.W.fnOf x x (defArgs st) (defBody st) (defScope st) .none kV dc pm an cd ct), sl⟩)
    (cc : PySem.W.codeIn K cd x = true) (kk : PySem.W.keepIn K (.ref f) = true)
    (b : ∀ (kV doc pm : Value) (an : Option Addr) (cdv ct : Value) (us : List Value), us.length = ps.length → bindArgs (PySem.W.fnOf x x (defArgs st) (defBody st) (defScope st) .none kV doc pm an cdv ct) ⟨us, []⟩ = pure (ps.zip us)) : DefAt K mg x st ps := by
  have F := fun_mk (st := st) l cc kk
  exact ⟨f, _, F, PySem.W.mg_of X G a, F.binds b⟩
theorem mk_defkw (X : K.In h) (G : h.Ns mainGlobals mg) (a : PySem.W.nsIn K mainGlobals x = some (some (.ref f))) (l : K.lookup f = some ⟨oc, od, .func (PySem.W.fnOf x x (defArgs st) (defBody st) (defScope st) .none kV dc pm an cd ct), sl⟩)
    (cc : PySem.W.codeIn K cd x = true) (kk : PySem.W.keepIn K (.ref f) = true)
    (b : ∀ (kV doc pm : Value) (an : Option Addr) (cdv ct : Value) (us : List Value), us.length = ps.length → bindArgs (PySem.W.fnOf x x (defArgs st) (defBody st) (defScope st) .none kV doc pm an cdv ct) ⟨us, []⟩ = pure (ps.zip us))
    (bk : ∀ (kV doc pm : Value) (an : Option Addr) (cdv ct : Value) (us : List Value), us.length = ks.length → bindArgs (PySem.W.fnOf x x (defArgs st) (defBody st) (defScope st) .none kV doc pm an cdv ct) ⟨[], ks.zip us⟩ = pure (ps.zip (pick us ix))) : DefKwAt K mg x st ps ks ix := by
  have F := fun_mk (st := st) l cc kk
  exact ⟨f, _, F, PySem.W.mg_of X G a, F.binds b, fun s ws _ hl => .of_eq (bk _ _ _ _ _ _ ws hl)⟩
def NoAttrs (K : PySem.W.Frag) (C : Addr) : List Str → Prop
  | [] => True
  | f :: r => PySem.W.findIn K (.ref C) f = some none ∧ NoAttrs K C r
theorem NoAttrs.mem : ∀ {l : List Str}, NoAttrs K C l → ∀ f ∈ l, NoAttr K C f
  | f :: r, ⟨h, t⟩, g, hg => by
    rcases List.mem_cons.mp hg with rfl | hg
    · exact h
    · exact NoAttrs.mem t g hg
theorem mk_cls {fld : List Str} (X : K.In h) (G : h.Ns mainGlobals mg) (a : PySem.W.nsIn K mainGlobals c = some (some (.ref C))) (pg : PySem.W.plainGet K C Str.empty = true) (hd : PySem.W.hasDictIn K C = true) (po : PySem.W.plainOver K C = true)
    (sa : PySem.W.findIn K (.ref C) "__setattr__" = some (some (.builtin "object.__setattr__"))) (n : NoAttrs K C fld) : HasCls K mg c fld := ⟨C, PySem.W.mg_of X G a, ⟨pg, hd, po, sa⟩, n.mem⟩
theorem mk_meth (X : K.In h) (G : h.Ns mainGlobals mg) (aC : PySem.W.nsIn K mainGlobals c = some (some (.ref C))) (pg : PySem.W.plainGet K C Str.empty = true) (hd : PySem.W.hasDictIn K C = true) (po : PySem.W.plainOver K C = true)
    (sa : PySem.W.findIn K (.ref C) "__setattr__" = some (some (.builtin "object.__setattr__"))) (a : PySem.W.findIn K (.ref C) m = some (some (.ref f))) (i : PySem.W.isFn K (.ref f) = true) (l : K.lookup f = some ⟨oc, od, .func (PySem.W.fnOf m qual (defArgs st) (defBody st) (defScope st) .none kV dc pm an cd ct), sl⟩)
    (cc : PySem.W.codeIn K cd qual = true) (kk : PySem.W.keepIn K (.ref f) = true)
    (b : ∀ (kV doc pm : Value) (an : Option Addr) (cdv ct : Value) (us : List Value), us.length = ps.length → bindArgs (PySem.W.fnOf m qual (defArgs st) (defBody st) (defScope st) .none kV doc pm an cdv ct) ⟨us, []⟩ = pure (ps.zip us)) : MethAt K mg c m qual st ps := by
  have F := fun_mk (st := st) l cc kk
  exact ⟨C, f, _, PySem.W.mg_of X G aC, ⟨pg, hd, po, sa⟩, ⟨a, i, kk⟩, F, F.binds b⟩
theorem mk_init (X : K.In h) (G : h.Ns mainGlobals mg) (aC : PySem.W.nsIn K mainGlobals c = some (some (.ref C))) (mk : PySem.W.makesIn K C = true) (kc : PySem.W.keepIn K (.ref C) = true)
    (a : PySem.W.findIn K (.ref C) "__init__" = some (some (.ref f))) (i : PySem.W.isFn K (.ref f) = true) (l : K.lookup f = some ⟨oc, od, .func (PySem.W.fnOf "__init__" qual (defArgs st) (defBody st) (defScope st) .none kV dc pm an cd ct), sl⟩)
    (cc : PySem.W.codeIn K cd qual = true) (kk : PySem.W.keepIn K (.ref f) = true)
    (b : ∀ (kV doc pm : Value) (an : Option Addr) (cdv ct : Value) (us : List Value), us.length = ps.length → bindArgs (PySem.W.fnOf "__init__" qual (defArgs st) (defBody st) (defScope st) .none kV doc pm an cdv ct) ⟨us, []⟩ = pure (ps.zip us)) : InitAt K mg c qual st ps := by
  have F := fun_mk (st := st) l cc kk
  exact ⟨C, f, _, PySem.W.mg_of X G aC, ⟨mk, a, i, kc⟩, F, F.binds b⟩
theorem mk_kd {d : Addr} {es : Array DictEntry} {n : Nat} {kvs : List (Tx × Int)} (X : K.In h) (G : h.Ns mainGlobals mg) (a : PySem.W.nsIn K mainGlobals x = some (some (.ref d))) (l : K.lookup d = some ⟨.type "dict", none, .dict es n, #[]⟩)
    (lit : PySem.W.KeysLit w.params es.toList) (low : (d == sysModules) = false) (p : Paired (fun (e : DictEntry) (p : Tx × Int) => ∃ t u, e.key = .str (sT p.1) t ∧ e.val = .int p.2 u) es.toList kvs) : HasKD w K mg x kvs :=
  ⟨d, es, n, PySem.W.mg_of X G a, ⟨l, lit, low⟩, nsAs_of l p⟩
theorem mk_law {arg : Str} {fa : Addr} (X : K.In h) (G : h.Ns mainGlobals mg) (hfa : mg x = some (.ref fa)) (a : PySem.W.nsIn K mainGlobals x = some (some (.ref f))) (l : K.lookup f = some ⟨oc, od, .func (PySem.W.fnOf x x (defArgs st) (defBody st) (defScope st) .none kV dc pm an cd ct), sl⟩)
    (cc : PySem.W.codeIn K cd x = true) (kk : PySem.W.keepIn K (.ref f) = true)
    (b : ∀ (kV doc pm : Value) (an : Option Addr) (cdv ct : Value) (u : Value), bindArgs (PySem.W.fnOf x x (defArgs st) (defBody st) (defScope st) .none kV doc pm an cdv ct) ⟨[u], []⟩ = pure [(arg, u)]) :
    ∃ fd, Fun K x x st fa fd ∧ ∀ (s : Shared) (u : Value), BindsTo s fd ⟨[u], []⟩ [(arg, u)] := by
  have e := hfa.symm.trans (PySem.W.mg_of X G a)
  cases e
  exact ⟨_, fun_mk (st := st) l cc kk, fun s u => .of_eq (b _ _ _ _ _ _ u)⟩
end
end MK

/-! MK, part 12: what the functions on plain data come to (for simp). -/
namespace MK
open PySem L2
section
variable (ρ : List (Option Mv)) (S : Sto) (f fa fb fc fo fe : XE) (g : XA) (t u : XT) (a b : XS) (i : Nat) (n : Nat)
@[simp] theorem eVar_eq : eVar i ρ S = (match ρ[i]? with | some (some m) => .ok m S | _ => .stuck) := rfl
@[simp] theorem eC_eq (d : Dv) : eC d ρ S = .ok (.val d) S := rfl
@[simp] theorem eBin_eq (F) : eBin F fa fb ρ S = (fa ρ S).bind fun x S1 => (fb ρ S1).bind fun y S2 => F x y S2 := rfl
@[simp] theorem eUn_eq (F) : eUn F fa ρ S = (fa ρ S).bind fun x S1 => F x S1 := rfl
@[simp] theorem eChain_eq (F G) : eChain F G fa fb fc ρ S = (fa ρ S).bind fun x S1 => (fb ρ S1).bind fun y S2 => (F x y S2).bind fun z S3 => match z with
  | .val (.bl true) => (fc ρ S3).bind fun w S4 => G y w S4
  | .val (.bl false) => .ok (.val (.bl false)) S3
  | _ => .stuck := rfl
@[simp] theorem xT_eq : xT f ρ S = (f ρ S).bind fun m S1 => match tru S1 m with | some b => .ok b S1 | none => .stuck := rfl
@[simp] theorem xB_eq : xB f ρ S = (f ρ S).bind fun m S1 => match m with | .val (.bl b) => .ok b S1 | _ => .stuck := rfl
@[simp] theorem xAnd_eq : xAnd t u ρ S = (t ρ S).bind fun b S1 => match b with | true => u ρ S1 | false => .ok false S1 := rfl
@[simp] theorem xOr_eq : xOr t u ρ S = (t ρ S).bind fun b S1 => match b with | false => u ρ S1 | true => .ok true S1 := rfl
@[simp] theorem xNot_eq : xNot t ρ S = (t ρ S).bind fun b S1 => .ok (!b) S1 := rfl
@[simp] theorem xYes_eq : xYes ρ S = .ok true S := rfl
@[simp] theorem eAnd_eq : eAnd fa fb ρ S = (fa ρ S).bind fun x S1 => match tru S1 x with | some true => fb ρ S1 | some false => .ok x S1 | none => .stuck := rfl
@[simp] theorem eOr_eq : eOr fa fb ρ S = (fa ρ S).bind fun x S1 => match tru S1 x with | some false => fb ρ S1 | some true => .ok x S1 | none => .stuck := rfl
@[simp] theorem eNot_eq : eNot fa ρ S = (fa ρ S).bind fun x S1 => match tru S1 x with | some b => .ok (.val (.bl (!b))) S1 | none => .stuck := rfl
@[simp] theorem eIf_eq : eIf t fa fb ρ S = (t ρ S).bind fun b S1 => match b with | true => fa ρ S1 | false => fb ρ S1 := rfl
@[simp] theorem aNil_eq : aNil ρ S = .ok [] S := rfl
@[simp] theorem aCons_eq : aCons f g ρ S = (f ρ S).bind fun x S1 => (g ρ S1).bind fun xs S2 => .ok (x :: xs) S2 := rfl
@[simp] theorem eMk_eq (F) : eMk F g ρ S = (g ρ S).bind F := rfl
@[simp] theorem eBm_eq (F T) : eBm F T f g ρ S = (f ρ S).bind fun x S1 => if T S1 x then (g ρ S1).bind fun xs S2 => F x xs S2 else .stuck := rfl
@[simp] theorem eBmN_eq (F T) : eBmN F T f ρ S = (f ρ S).bind fun x S1 => if T S1 x then F x [] S1 else .stuck := rfl
@[simp] theorem eFld_eq (c x : Str) : eFld c x fo ρ S = (fo ρ S).bind fun m S1 => match insOf S1 m with
  | some (c', fs) => if c' = c then (match fs.lookup x with | some m => .ok m S1 | none => .stuck) else .stuck
  | none => .stuck := rfl
@[simp] theorem eIsi_eq (T) : eIsi T f ρ S = (f ρ S).bind fun x S1 => match tyN S1 x with | some t => .ok (.val (.bl (isT T t))) S1 | none => .stuck := rfl
@[simp] theorem xoN_eq : xoN ρ S = .ok none S := rfl
@[simp] theorem xoS_eq : xoS f ρ S = (f ρ S).bind fun m S1 => match m with | .val (.int i) => .ok (some i) S1 | _ => .stuck := rfl
@[simp] theorem eSl_eq (mk) (p q : XO) : eSl mk f p q ρ S = (f ρ S).bind fun x S1 => (p ρ S1).bind fun lo S2 => (q ρ S2).bind fun hi S3 => fSl mk x lo hi S3 := rfl
@[simp] theorem eInKD_eq (kvs neg) : eInKD kvs neg f ρ S = (f ρ S).bind fun m S1 => match m with | .val (.str z) => .ok (.val (.bl ((kvs.lookup z).isSome != neg))) S1 | _ => .stuck := rfl
@[simp] theorem eIxKD_eq (kvs) : eIxKD kvs f ρ S = (f ρ S).bind fun m S1 => match m with
  | .val (.str z) => (match kvs.lookup z with | some i => .ok (.val (.int i)) S1 | none => .stuck)
  | _ => .stuck := rfl
@[simp] theorem eMeth_eq (c m : Str) (F) : eMeth c m F fo g ρ S = (fo ρ S).bind fun x S1 => match insOf S1 x with
  | some (c', fs) => if c' = c then (match fs.lookup m with | none => (g ρ S1).bind fun ms S2 => F (x :: ms) S2 | some _ => .stuck) else .stuck
  | none => .stuck := rfl
@[simp] theorem sSeq_eq : sSeq a b ρ S = (a ρ S).seq b := rfl
@[simp] theorem sNil_eq : sNil ρ S = .nx ρ S := rfl
@[simp] theorem sNever_eq : sNever ρ S = .stuck := rfl
@[simp] theorem sCont_eq : sCont ρ S = .cnt ρ S := rfl
@[simp] theorem sBrk_eq : sBrk ρ S = .brk ρ S := rfl
@[simp] theorem sRet_eq : sRet f ρ S = (f ρ S).thn ρ fun m S1 => .ret m S1 := rfl
@[simp] theorem sRetN_eq : sRetN ρ S = .ret (.val .non) S := rfl
@[simp] theorem sExpr_eq : sExpr f ρ S = (f ρ S).thn ρ fun _ S1 => .nx ρ S1 := rfl
@[simp] theorem sIf_eq : sIf t a b ρ S = (t ρ S).thn ρ fun c S1 => match c with | true => a ρ S1 | false => b ρ S1 := rfl
@[simp] theorem sSet_eq : sSet i f ρ S = (f ρ S).thn ρ fun m S1 => .nx (ρ.set i (some m)) S1 := rfl
@[simp] theorem sAsg_eq (tg : XG) : sAsg f tg ρ S = (f ρ S).thn ρ fun m S1 => (tg m ρ S1).only := rfl
@[simp] theorem sAug_eq (F) : sAug i F f ρ S = (match ρ[i]? with
  | some (some m) => (f ρ S).thn ρ fun y S1 => (F m y S1).thn ρ fun z S2 => .nx (ρ.set i (some z)) S2
  | _ => .stuck) := rfl
@[simp] theorem tgName_eq (m) : tgName i m ρ S = .nx (ρ.set i (some m)) S := rfl
@[simp] theorem tgSub_eq (F m) : tgSub F fo fe m ρ S = (fo ρ S).thn ρ fun o S1 => (fe ρ S1).thn ρ fun i S2 => (F o i m S2).thn ρ fun _ S3 => .nx ρ S3 := rfl
@[simp] theorem tgsNil_eq : tgsNil [] ρ S = .nx ρ S := rfl
@[simp] theorem tgsCons_eq (tg : XG) (v m r) : tgsCons tg v (m :: r) ρ S = (tg m ρ S).seq fun ρ1 S1 => v r ρ1 S1 := rfl
@[simp] theorem tgTup_eq (v ds) : tgTup n v (.val (.tup ds)) ρ S = if ds.length = n then v (ds.map .val) ρ S else .stuck := rfl
@[simp] theorem tgFld_eq (c x : Str) (m) : tgFld c x fo m ρ S = (fo ρ S).thn ρ fun z S1 => match z with
  | .loc k => (match S1[k]? with
    | some (.ins c' fs) => if c' = c ∧ fs.length < 1000 then .nx ρ (S1.set k (.ins c (putM x m fs))) else .stuck
    | _ => .stuck)
  | _ => .stuck := rfl
@[simp] theorem sFldS_eq (c x : Str) : sFldS c x fo fe ρ S = (fe ρ S).thn ρ fun y S1 => (fo ρ S1).thn ρ fun z S2 => match z with
  | .loc k => match S2[k]? with
    | some (.ins c' fs) => if c' = c ∧ fs.length < 1000 then .nx ρ (S2.set k (.ins c (putM x y fs))) else .stuck
    | _ => .stuck
  | _ => .stuck := rfl
@[simp] theorem sFldAug_eq (c x : Str) (F) : sFldAug c x F fo fe ρ S = (fo ρ S).thn ρ fun z S1 => match z with
  | .loc k => (match insOf S1 (.loc k) with
    | some (c', fs) => if c' = c then (match fs.lookup x with
      | some old => (fe ρ S1).thn ρ fun y S2 => (F old y S2).thn ρ fun z S3 => (match S3[k]? with
        | some (.ins c'' fs') => if c'' = c ∧ fs'.length < 1000 then .nx ρ (S3.set k (.ins c (putM x z fs'))) else .stuck
        | _ => .stuck)
      | none => .stuck) else .stuck
    | none => .stuck)
  | _ => .stuck := rfl
@[simp] theorem sFor_eq (it : XI) (tg : XG) : sFor it tg a ρ S = (it ρ S).thn ρ fun p S1 => forS p.2 tg a p.1 ρ S1 := rfl
@[simp] theorem sWhile_eq : sWhile n t a ρ S = whileS n t a ρ S := rfl
@[simp] theorem iAny_eq : iAny f ρ S = (f ρ S).bind fun m S1 => match m with
  | .val (.str x) => .ok (x.map fun c => .val (.str [c]), always) S1
  | .val (.tup ds) => .ok (ds.map .val, always) S1
  | .val (.lst ds) => .ok (ds.map .val, always) S1
  | .loc n => (match S1[n]? with | some (.lst ms) => .ok (ms, fun S => S[n]? = some (.lst ms)) S1 | _ => .stuck)
  | _ => .stuck := rfl
@[simp] theorem iRng1_eq : iRng1 g ρ S = (g ρ S).bind fun ms S1 => match ms with
  | [.val (.int j)] => if -(2 ^ 62) ≤ j ∧ j < 2 ^ 62 then .ok (rangeL 0 j.toNat, always) S1 else .stuck
  | _ => .stuck := rfl
@[simp] theorem iRng2_eq : iRng2 g ρ S = (g ρ S).bind fun ms S1 => match ms with
  | [.val (.int i), .val (.int j)] => if -(2 ^ 62) ≤ i ∧ i < 2 ^ 62 ∧ -(2 ^ 62) ≤ j ∧ j < 2 ^ 62 then .ok (rangeL i (j - i).toNat, always) S1 else .stuck
  | _ => .stuck := rfl
@[simp] theorem eLc_eq (fin) (it : XI) (tg tt te) : eLc fin it tg tt te ρ S = (it ρ S).bind fun p S1 => (lcS p.2 tg (wipeM ρ tg.ix) tt te p.1 [] S1).bind fin := rfl
@[simp] theorem forS_nil (tg : XG) : forS always tg a [] ρ S = .nx ρ S := by unfold forS; rw [if_pos (show always S from trivial)]
@[simp] theorem forS_cons (tg : XG) (m ms) : forS always tg a (m :: ms) ρ S = (tg m ρ S).only.seq fun ρ1 S1 => (a ρ1 S1).turn fun ρ2 S2 => forS always tg a ms ρ2 S2 := by
  conv => lhs; unfold forS
  rw [if_pos (show always S from trivial)]
@[simp] theorem lcS_nil (tg tt te acc) : lcS always tg ρ tt te [] acc S = .ok acc S := by unfold lcS; rw [if_pos (show always S from trivial)]
@[simp] theorem lcS_cons (tg tt te m ms acc) : lcS always tg ρ tt te (m :: ms) acc S = (match tgSet tg m ρ with
    | some ρ2 => (tt ρ2 S).nox.bind fun b S1 => match b with
      | true => (te ρ2 S1).nox.bind fun y S2 => if acc.length < sizeLine then lcS always tg ρ tt te ms (acc ++ [y]) S2 else .stuck
      | false => lcS always tg ρ tt te ms acc S1
    | none => .stuck) := by
  conv => lhs; unfold lcS
  rw [if_pos (show always S from trivial)]
  all_goals rfl
@[simp] theorem callP_vals (G : PFn) (ds : List Dv) : callP G (ds.map .val) S = liftP (G ds) S := by unfold callP; rw [vals_map]
@[simp] theorem callP1 (G : PFn) (d : Dv) : callP G [.val d] S = liftP (G [d]) S := rfl
@[simp] theorem callP2 (G : PFn) (d e : Dv) : callP G [.val d, .val e] S = liftP (G [d, e]) S := rfl
@[simp] theorem callP3 (G : PFn) (d e c : Dv) : callP G [.val d, .val e, .val c] S = liftP (G [d, e, c]) S := rfl
@[simp] theorem callP4 (G : PFn) (d e c k : Dv) : callP G [.val d, .val e, .val c, .val k] S = liftP (G [d, e, c, k]) S := rfl
@[simp] theorem pure0_val (d : Dv) : (Rz.ok (.val d) S).pure0 = .ok d := rfl
end
@[simp] theorem fInt_eq (C g) (i j : Int) (S : Sto) : fInt C g (.val (.int i)) (.val (.int j)) S = if C i j then .ok (.val (g i j)) S else .stuck := rfl
@[simp] theorem fAdd_int (i j : Int) (S : Sto) : fAdd (.val (.int i)) (.val (.int j)) S = .ok (.val (.int (i + j))) S := rfl
@[simp] theorem fAdd_str (i j : Tx) (S : Sto) : fAdd (.val (.str i)) (.val (.str j)) S = if i.length + j.length ≤ sizeLine then .ok (.val (.str (i ++ j))) S else .stuck := rfl
@[simp] theorem fAdd_tup (i j : List Dv) (S : Sto) : fAdd (.val (.tup i)) (.val (.tup j)) S = if i.length + j.length ≤ sizeLine then .ok (.val (.tup (i ++ j))) S else .stuck := rfl
@[simp] theorem fNeg_eq (i : Int) (S : Sto) : fNeg (.val (.int i)) S = .ok (.val (.int (-i))) S := rfl
@[simp] theorem tru_bl (S : Sto) (b : Bool) : tru S (.val (.bl b)) = some b := rfl
@[simp] theorem tru_int (S : Sto) (b : Int) : tru S (.val (.int b)) = some (b != 0) := rfl
@[simp] theorem tru_non (S : Sto) : tru S (.val .non) = some false := rfl
theorem line_is : (sizeLine : Nat) = 16777216 := sizeLine_eq
end MK

-- printed by gen.py
namespace TheText
open PySem L2 MK PyProof.Rows
def top (i : Nat) : Stmt := PySem.Challenge.pw_maskedlist_k70_formulas_as_text.main.body.getD i (.Pass ⟨0, 0, 0, 0⟩)
def kd_OPERANDS : List (Tx × Int) := [([112, 108, 117, 115], 2), ([109, 105, 110, 117, 115], 2), ([116, 105, 109, 101, 115], 2), ([110, 111, 116], 1), ([97, 110, 100], 2), ([111, 114], 2)]
/-- format_formula -/
noncomputable abbrev g_format_formula (rec : PFn) : XS :=
  (sSeq (sIf ((xNot ((xT ((eIsi "tuple" (eVar 0))))))) ((sRet ((eMk fStr (aCons (eVar 0) (aNil)))))) (sNil))
    (sRet ((eBin fAdd ((eBin fAdd ((eBin fAdd ((eBin fIx (eVar 0) (eC (.int 0)))) (eC (.str [40])))) ((eBm fJoin isStr (eC (.str [44])) (aCons ((eLc finL (iAny ((eSl mkLst (eVar 0) (xoS (eC (.int 1))) xoN))) (.one 1) (xYes) ((eMk (callP rec) (aCons (eVar 1) (aNil)))))) (aNil)))))) (eC (.str [41]))))))
noncomputable def G_format_formula : Nat → PFn
  | 0 => fun _ => .stuck
  | k + 1 => fnP 1 2 (g_format_formula (G_format_formula k))
/-- read_residue -/
noncomputable abbrev g_read_residue : XS :=
  (sSeq (sIf ((xOr ((xB ((eBin fEq ((eSl mkLst (eVar 0) (xoS (eVar 1)) (xoS ((eBin fAdd (eVar 1) (eC (.int 1))))))) (eC (.str [])))))) ((xOr ((xB ((eBin (fInS true) ((eBin fIx (eVar 0) (eVar 1))) (eC (.str [48, 49, 50, 51, 52, 53, 54, 55, 56, 57])))))) ((xB ((eBin fGe ((eMk fIntOf (aCons ((eBin fIx (eVar 0) (eVar 1))) (aNil)))) (eVar 2))))))))) (sNever) (sNil))
    (sSeq (sSet 3 ((eMk fIntOf (aCons ((eBin fIx (eVar 0) (eVar 1))) (aNil)))))
    (sSeq (sSet 4 ((eBin fAdd (eVar 1) (eC (.int 1)))))
    (sSeq (sWhile 100000 ((xAnd ((xB ((eBin fLt (eVar 4) ((eMk fLen (aCons (eVar 0) (aNil)))))))) ((xB ((eBin (fInS false) ((eBin fIx (eVar 0) (eVar 4))) (eC (.str [48, 49, 50, 51, 52, 53, 54, 55, 56, 57])))))))) ((sSeq (sSet 5 ((eBin fAdd ((eBin fMul (eC (.int 10)) (eVar 3))) ((eMk fIntOf (aCons ((eBin fIx (eVar 0) (eVar 4))) (aNil)))))))
    (sSeq (sIf ((xOr ((xB ((eBin fEq (eVar 3) (eC (.int 0)))))) ((xB ((eBin fGe (eVar 5) (eVar 2))))))) (sNever) (sNil))
    (sSeq (sSet 3 (eVar 5))
    (sAug 4 fAddI (eC (.int 1))))))))
    (sRet ((eMk mkTup (aCons (eVar 3) (aCons (eVar 4) (aNil))))))))))
noncomputable def G_read_residue : PFn := fnP 3 6 g_read_residue
/-- FormulaReader.__init__ -/
noncomputable abbrev g_FormulaReader_init : XS :=
  (sSeq (sFldS "FormulaReader" "text" (eVar 0) (eVar 1))
    (sSeq (sFldS "FormulaReader" "modulus" (eVar 0) (eVar 2))
    (sSeq (sFldS "FormulaReader" "position" (eVar 0) (eC (.int 0)))
    (sSeq (sFldS "FormulaReader" "stack" (eVar 0) ((eMk mkLoc (aNil))))
    (sSeq (sFldS "FormulaReader" "leaves" (eVar 0) (eC (.int 0)))
    (sSeq (sFldS "FormulaReader" "tuples" (eVar 0) (eC (.int 0)))
    (sFldS "FormulaReader" "depth" (eVar 0) (eC (.int 0)))))))))
noncomputable def G_FormulaReader_init : SFn := fnS 3 3 g_FormulaReader_init
/-- FormulaReader.read_word -/
noncomputable abbrev g_FormulaReader_read_word : XS :=
  (sSeq (sSet 1 ((eFld "FormulaReader" "position" (eVar 0))))
    (sSeq (sWhile 100000 ((xAnd ((xB ((eBin fLt ((eFld "FormulaReader" "position" (eVar 0))) ((eMk fLen (aCons ((eFld "FormulaReader" "text" (eVar 0))) (aNil)))))))) ((xB ((eBin (fInS false) ((eBin fIx ((eFld "FormulaReader" "text" (eVar 0))) ((eFld "FormulaReader" "position" (eVar 0))))) (eC (.str [97, 98, 99, 100, 101, 102, 103, 104, 105, 106, 107, 108, 109, 110, 111, 112, 113, 114, 115, 116, 117, 118, 119, 120, 121, 122])))))))) ((sSeq (sIf ((xB ((eBin fEq ((eBin fSub ((eFld "FormulaReader" "position" (eVar 0))) (eVar 1))) (eC (.int 6)))))) (sNever) (sNil))
    (sFldAug "FormulaReader" "position" fAddI (eVar 0) (eC (.int 1))))))
    (sRet ((eSl mkLst ((eFld "FormulaReader" "text" (eVar 0))) (xoS (eVar 1)) (xoS ((eFld "FormulaReader" "position" (eVar 0)))))))))
noncomputable def G_FormulaReader_read_word : SFn := fnS 1 2 g_FormulaReader_read_word
/-- FormulaReader.read_start -/
noncomputable abbrev g_FormulaReader_read_start : XS :=
  (sSeq (sIf ((xB ((eBin (fInS false) ((eSl mkLst ((eFld "FormulaReader" "text" (eVar 0))) (xoS ((eFld "FormulaReader" "position" (eVar 0)))) (xoS ((eBin fAdd ((eFld "FormulaReader" "position" (eVar 0))) (eC (.int 1))))))) (eC (.str [48, 49, 50, 51, 52, 53, 54, 55, 56, 57])))))) ((sSeq (sAsg ((eMk (callP G_read_residue) (aCons ((eFld "FormulaReader" "text" (eVar 0))) (aCons ((eFld "FormulaReader" "position" (eVar 0))) (aCons ((eFld "FormulaReader" "modulus" (eVar 0))) (aNil)))))) (tgTup 2 (tgsCons (tgName 1) (tgsCons (tgFld "FormulaReader" "position" (eVar 0)) tgsNil))))
    (sSeq (sFldAug "FormulaReader" "leaves" fAddI (eVar 0) (eC (.int 1)))
    (sRet (eVar 1))))) (sNil))
    (sSeq (sSet 2 ((eMeth "FormulaReader" "read_word" G_FormulaReader_read_word (eVar 0) aNil)))
    (sSeq (sIf ((xOr ((xB ((eBin fNe ((eSl mkLst ((eFld "FormulaReader" "text" (eVar 0))) (xoS ((eFld "FormulaReader" "position" (eVar 0)))) (xoS ((eBin fAdd ((eFld "FormulaReader" "position" (eVar 0))) (eC (.int 1))))))) (eC (.str [40])))))) ((xB ((eInKD kd_OPERANDS true (eVar 2))))))) ((sSeq (sIf ((xOr ((xB ((eBin fEq (eVar 2) (eC (.str [])))))) ((xB ((eBin fEq ((eSl mkLst ((eFld "FormulaReader" "text" (eVar 0))) (xoS ((eFld "FormulaReader" "position" (eVar 0)))) (xoS ((eBin fAdd ((eFld "FormulaReader" "position" (eVar 0))) (eC (.int 1))))))) (eC (.str [40])))))))) (sNever) (sNil))
    (sSeq (sFldAug "FormulaReader" "leaves" fAddI (eVar 0) (eC (.int 1)))
    (sRet (eVar 2))))) (sNil))
    (sSeq (sFldAug "FormulaReader" "position" fAddI (eVar 0) (eC (.int 1)))
    (sSeq (sExpr ((eBm fAppend isLst ((eFld "FormulaReader" "stack" (eVar 0))) (aCons ((eMk mkLoc (aCons (eVar 2) (aNil)))) (aNil)))))
    (sSeq (sFldAug "FormulaReader" "tuples" fAddI (eVar 0) (eC (.int 1)))
    (sSeq (sFldS "FormulaReader" "depth" (eVar 0) ((eMk fMax2 (aCons ((eFld "FormulaReader" "depth" (eVar 0))) (aCons ((eMk fLen (aCons ((eFld "FormulaReader" "stack" (eVar 0))) (aNil)))) (aNil))))))
    (sRet (eC .non)))))))))
noncomputable def G_FormulaReader_read_start : SFn := fnS 1 3 g_FormulaReader_read_start
/-- FormulaReader.finish -/
noncomputable abbrev g_FormulaReader_finish : XS :=
  (sSeq (sWhile 100000 ((xB ((eBin fNe ((eFld "FormulaReader" "stack" (eVar 0))) ((eMk mkLst (aNil))))))) ((sSeq (sSet 2 ((eBin fIx ((eFld "FormulaReader" "stack" (eVar 0))) ((eUn fNeg (eC (.int 1)))))))
    (sSeq (sExpr ((eBm fAppend isLst (eVar 2) (aCons (eVar 1) (aNil)))))
    (sSeq (sSet 3 ((eIf ((xB ((eBin fLe ((eMk fLen (aCons (eVar 2) (aNil)))) ((eIxKD kd_OPERANDS ((eBin fIx (eVar 2) (eC (.int 0)))))))))) (eC (.str [44])) (eC (.str [41])))))
    (sSeq (sIf ((xB ((eBin fNe ((eSl mkLst ((eFld "FormulaReader" "text" (eVar 0))) (xoS ((eFld "FormulaReader" "position" (eVar 0)))) (xoS ((eBin fAdd ((eFld "FormulaReader" "position" (eVar 0))) (eC (.int 1))))))) (eVar 3))))) (sNever) (sNil))
    (sSeq (sFldAug "FormulaReader" "position" fAddI (eVar 0) (eC (.int 1)))
    (sSeq (sIf ((xB ((eBin fEq (eVar 3) (eC (.str [44])))))) ((sRet (eC .non))) (sNil))
    (sSet 1 ((eMk fTupOf (aCons ((eBmN fPop isLst ((eFld "FormulaReader" "stack" (eVar 0))))) (aNil)))))))))))))
    (sSeq (sIf ((xB ((eBin fNe ((eFld "FormulaReader" "position" (eVar 0))) ((eMk fLen (aCons ((eFld "FormulaReader" "text" (eVar 0))) (aNil)))))))) (sNever) (sNil))
    (sRet (eVar 1))))
noncomputable def G_FormulaReader_finish : SFn := fnS 2 4 g_FormulaReader_finish
/-- FormulaReader.is_too_large -/
noncomputable abbrev g_FormulaReader_is_too_large : XS :=
  (sRet ((eOr ((eBin fGt ((eFld "FormulaReader" "leaves" (eVar 0))) (eC (.int 8)))) ((eOr ((eBin fGt ((eFld "FormulaReader" "tuples" (eVar 0))) (eC (.int 16)))) ((eBin fGt ((eFld "FormulaReader" "depth" (eVar 0))) (eC (.int 12)))))))))
noncomputable def G_FormulaReader_is_too_large : SFn := fnS 1 1 g_FormulaReader_is_too_large
/-- parse_formula -/
noncomputable abbrev g_parse_formula : XS :=
  (sSeq (sSet 2 ((eMk (mkIns "FormulaReader" G_FormulaReader_init) (aCons (eVar 0) (aCons (eVar 1) (aNil))))))
    (sSeq (sSet 3 (eC .non))
    (sSeq (sWhile 100000 ((xB ((eBin (fIsN false) (eVar 3) (eC .non))))) ((sSeq (sSet 4 ((eMeth "FormulaReader" "read_start" G_FormulaReader_read_start (eVar 2) aNil)))
    (sIf ((xB ((eBin (fIsN true) (eVar 4) (eC .non))))) ((sSet 3 ((eMeth "FormulaReader" "finish" G_FormulaReader_finish (eVar 2) (aCons (eVar 4) (aNil)))))) (sNil)))))
    (sSeq (sIf ((xT ((eMeth "FormulaReader" "is_too_large" G_FormulaReader_is_too_large (eVar 2) aNil)))) (sNever) (sNil))
    (sRet (eVar 3))))))
noncomputable def G_parse_formula : PFn := fnP 2 5 g_parse_formula
/-- _law_pen -/
noncomputable abbrev g_law_pen : XS :=
  (sRet ((eMk mkLoc (aCons ((eMk (fLstOf mkLst) (aCons ((eSl mkLst (eVar 0) xoN (xoS (eC (.int 63))))) (aNil)))) (aCons (eC (.int 0)) (aCons (eC (.int 0)) (aNil)))))))
noncomputable def G_law_pen : SFn := fnS 1 1 g_law_pen
/-- _law_fresh -/
noncomputable abbrev g_law_fresh : XS :=
  (sSeq (sSet 1 ((eBin fIx (eVar 0) (eC (.int 1)))))
    (sSeq (sAsg ((eBin fAdd (eVar 1) (eC (.int 1)))) (tgSub fSetL (eVar 0) (eC (.int 1))))
    (sSeq (sSet 2 (eC (.int 0)))
    (sSeq (sIf ((xB ((eBin fNe ((eBin fIx (eVar 0) (eC (.int 0)))) ((eMk mkLst (aNil))))))) ((sSet 2 ((eBin fIx ((eBin fIx (eVar 0) (eC (.int 0)))) ((eBin fMod (eVar 1) ((eMk fLen (aCons ((eBin fIx (eVar 0) (eC (.int 0)))) (aNil)))))))))) (sNil))
    (sSeq (sIf ((xAnd ((xB ((eBin fLt (eVar 1) ((eMk fLen (aCons ((eBin fIx (eVar 0) (eC (.int 0)))) (aNil)))))))) ((xB ((eBin fGe (eVar 2) ((eBin fPow (eC (.int 10)) (eC (.int 18)))))))))) ((sRet ((eBin fSub (eVar 2) ((eBin fPow (eC (.int 10)) (eC (.int 18)))))))) (sNil))
    (sSeq (sSet 3 (eC (.int 2305843009213693951)))
    (sSeq (sSet 4 ((eBin fMod ((eBin fAdd ((eBin fAdd ((eBin fMul (eVar 2) (eC (.int 48271)))) ((eBin fMul (eC (.int 40692)) (eVar 1))))) (eC (.int 31)))) (eVar 3))))
    (sSeq (sSet 5 (eVar 4))
    (sSeq (sFor (iRng1 (aCons (eC (.int 6)) (aNil))) (tgName 6) ((sSeq (sSet 4 ((eBin fMod ((eBin fAdd ((eBin fAdd ((eBin fMul (eVar 4) (eVar 4))) ((eBin fMul ((eBin fMul (eC (.int 69621)) ((eBin fAdd (eVar 6) (eC (.int 1)))))) ((eBin fAdd (eVar 1) (eC (.int 1)))))))) (eVar 2))) (eVar 3))))
    (sSet 5 ((eBin fAdd ((eBin fMul (eVar 5) (eVar 3))) (eVar 4)))))))
    (sRet (eVar 5)))))))))))
noncomputable def G_law_fresh : SFn := fnS 1 7 g_law_fresh
/-- _law_draw -/
noncomputable abbrev g_law_draw : XS :=
  (sSeq (sIf ((xB ((eBin fLt ((eBin fIx (eVar 0) (eC (.int 2)))) (eVar 1))))) ((sAsg ((eMk G_law_fresh (aCons (eVar 0) (aNil)))) (tgSub fSetL (eVar 0) (eC (.int 2))))) (sNil))
    (sSeq (sSet 2 ((eBin fMod ((eBin fIx (eVar 0) (eC (.int 2)))) (eVar 1))))
    (sSeq (sAsg ((eBin fDiv ((eBin fIx (eVar 0) (eC (.int 2)))) (eVar 1))) (tgSub fSetL (eVar 0) (eC (.int 2))))
    (sRet (eVar 2)))))
noncomputable def G_law_draw : SFn := fnS 2 3 g_law_draw
/-- _law_modulus -/
noncomputable abbrev g_law_modulus : XS :=
  (sRet ((eBin fIx ((eMk mkLst (aCons (eC (.int 2)) (aCons (eC (.int 3)) (aCons (eC (.int 4)) (aCons (eC (.int 5)) (aCons (eC (.int 6)) (aCons (eC (.int 7)) (aCons (eC (.int 12)) (aCons (eC (.int 97)) (aCons (eC (.int 1000)) (aCons ((eBin fAdd (eC (.int 2)) ((eMk G_law_draw (aCons (eVar 0) (aCons (eC (.int 999)) (aNil))))))) (aNil))))))))))))) ((eMk G_law_draw (aCons (eVar 0) (aCons (eC (.int 10)) (aNil))))))))
noncomputable def G_law_modulus : SFn := fnS 1 1 g_law_modulus
/-- _law_leaf -/
noncomputable abbrev g_law_leaf : XS :=
  (sSeq (sSet 2 ((eMk G_law_draw (aCons (eVar 0) (aCons (eC (.int 9)) (aNil))))))
    (sSeq (sIf ((xB ((eBin fLt (eVar 2) (eC (.int 6)))))) ((sRet ((eBin fIx ((eMk mkLst (aCons (eC (.str [120])) (aCons (eC (.str [120, 97])) (aCons (eC (.str [120, 98])) (aCons (eC (.str [97, 98, 99, 100, 101, 102])) (aCons (eC (.str [97, 98, 99, 100, 101, 103])) (aCons (eC (.str [120])) (aNil))))))))) (eVar 2))))) (sNil))
    (sRet ((eBin fIx ((eMk mkLst (aCons (eC (.int 0)) (aCons (eC (.int 1)) (aCons ((eMk G_law_draw (aCons (eVar 0) (aCons (eVar 1) (aNil))))) (aNil)))))) ((eBin fSub (eVar 2) (eC (.int 6)))))))))
noncomputable def G_law_leaf : SFn := fnS 2 3 g_law_leaf
/-- _law_formula -/
noncomputable abbrev g_law_formula (rec : SFn) : XS :=
  (sSeq (sSet 4 (eC .non))
    (sSeq (sIf ((xOr ((xB ((eBin fLt (eVar 2) (eC (.int 2)))))) ((xB ((eBin fEq ((eMk G_law_draw (aCons (eVar 0) (aCons (eC (.int 7)) (aNil))))) (eC (.int 0)))))))) ((sSet 4 ((eMk G_law_leaf (aCons (eVar 0) (aCons (eVar 1) (aNil))))))) ((sSeq (sSet 5 ((eBin fAdd (eC (.int 1)) ((eMk G_law_draw (aCons (eVar 0) (aCons ((eBin fSub (eVar 2) (eC (.int 1)))) (aNil))))))))
    (sSeq (sSet 6 ((eBin fIx ((eMk mkLst (aCons (eC (.str [112, 108, 117, 115])) (aCons (eC (.str [109, 105, 110, 117, 115])) (aCons (eC (.str [116, 105, 109, 101, 115])) (aCons (eC (.str [97, 110, 100])) (aCons (eC (.str [111, 114])) (aCons (eC (.str [116, 105, 109, 101, 115])) (aNil))))))))) ((eMk G_law_draw (aCons (eVar 0) (aCons (eC (.int 6)) (aNil))))))))
    (sSet 4 ((eMk mkTup (aCons (eVar 6) (aCons ((eMk rec (aCons (eVar 0) (aCons (eVar 1) (aCons (eVar 5) (aCons (eVar 3) (aNil))))))) (aCons ((eMk rec (aCons (eVar 0) (aCons (eVar 1) (aCons ((eBin fSub (eVar 2) (eVar 5))) (aCons (eVar 3) (aNil))))))) (aNil)))))))))))
    (sSeq (sIf ((xAnd ((xB ((eBin fGt ((eBin fIx (eVar 3) (eC (.int 0)))) (eC (.int 0)))))) ((xB ((eBin fEq ((eMk G_law_draw (aCons (eVar 0) (aCons (eC (.int 6)) (aNil))))) (eC (.int 0)))))))) ((sSeq (sAsg ((eBin fSub ((eBin fIx (eVar 3) (eC (.int 0)))) (eC (.int 1)))) (tgSub fSetL (eVar 3) (eC (.int 0))))
    (sSet 4 ((eMk mkTup (aCons (eC (.str [110, 111, 116])) (aCons (eVar 4) (aNil)))))))) (sNil))
    (sRet (eVar 4)))))
noncomputable def G_law_formula : Nat → SFn
  | 0 => fun _ _ => .stuck
  | k + 1 => fnS 4 7 (g_law_formula (G_law_formula k))
/-- _law_some_formula -/
noncomputable abbrev g_law_some_formula : XS :=
  (sRet ((eMk (G_law_formula 20) (aCons (eVar 0) (aCons (eVar 1) (aCons ((eBin fAdd (eC (.int 1)) ((eMk G_law_draw (aCons (eVar 0) (aCons (eVar 2) (aNil))))))) (aCons ((eMk mkLoc (aCons (eC (.int 4)) (aNil)))) (aNil))))))))
noncomputable def G_law_some_formula : SFn := fnS 3 3 g_law_some_formula
/-- _law_text -/
noncomputable abbrev g_law_text (rec : PFn) : XS :=
  (sSeq (sIf ((xNot ((xT ((eIsi "tuple" (eVar 0))))))) ((sRet ((eMk fStr (aCons (eVar 0) (aNil)))))) (sNil))
    (sRet ((eBin fAdd ((eBin fAdd ((eBin fAdd ((eBin fIx (eVar 0) (eC (.int 0)))) (eC (.str [40])))) ((eBm fJoin isStr (eC (.str [44])) (aCons ((eLc finL (iAny ((eSl mkLst (eVar 0) (xoS (eC (.int 1))) xoN))) (.one 1) (xYes) ((eMk (callP rec) (aCons (eVar 1) (aNil)))))) (aNil)))))) (eC (.str [41]))))))
noncomputable def G_law_text : Nat → PFn
  | 0 => fun _ => .stuck
  | k + 1 => fnP 1 2 (g_law_text (G_law_text k))
/-- _law_limit_formula -/
noncomputable abbrev g_law_limit_formula : XS :=
  (sSeq (sSet 2 ((eMk G_law_draw (aCons (eVar 0) (aCons (eC (.int 3)) (aNil))))))
    (sSeq (sSet 3 ((eBin fIx ((eMk mkLst (aCons (eC (.str [112, 108, 117, 115])) (aCons (eC (.str [111, 114])) (aCons (eC (.str [120])) (aCons ((eBin fSub (eVar 1) (eC (.int 1)))) (aNil))))))) ((eMk G_law_draw (aCons (eVar 0) (aCons (eC (.int 4)) (aNil))))))))
    (sSeq (sIf ((xB ((eBin fEq (eVar 2) (eC (.int 0)))))) ((sFor (iRng1 (aCons (eC (.int 7)) (aNil))) (tgName 4) ((sSet 3 ((eIf ((xB ((eBin fEq ((eMk G_law_draw (aCons (eVar 0) (aCons (eC (.int 2)) (aNil))))) (eC (.int 0)))))) ((eMk mkTup (aCons (eC (.str [116, 105, 109, 101, 115])) (aCons (eVar 3) (aCons (eC (.str [110, 111, 116])) (aNil)))))) ((eMk mkTup (aCons (eC (.str [109, 105, 110, 117, 115])) (aCons (eC (.str [121])) (aCons (eVar 3) (aNil)))))))))))) ((sIf ((xB ((eBin fEq (eVar 2) (eC (.int 1)))))) ((sFor (iRng1 (aCons (eC (.int 12)) (aNil))) (tgName 4) ((sSet 3 ((eMk mkTup (aCons (eC (.str [110, 111, 116])) (aCons (eVar 3) (aNil))))))))) ((sSeq (sSet 5 (eVar 3))
    (sSeq (sFor (iRng1 (aCons (eC (.int 8)) (aNil))) (tgName 4) ((sSet 3 ((eMk mkTup (aCons (eC (.str [110, 111, 116])) (aCons (eVar 3) (aNil))))))))
    (sSeq (sFor (iRng1 (aCons (eC (.int 7)) (aNil))) (tgName 4) ((sSet 5 ((eMk mkTup (aCons (eC (.str [110, 111, 116])) (aCons (eVar 5) (aNil))))))))
    (sSet 3 ((eMk mkTup (aCons (eC (.str [97, 110, 100])) (aCons (eVar 3) (aCons (eVar 5) (aNil))))))))))))))
    (sRet (eVar 3)))))
noncomputable def G_law_limit_formula : SFn := fnS 2 6 g_law_limit_formula
/-- law -/
noncomputable abbrev g_law : XS :=
  (sSeq (sSet 1 ((eMk G_law_pen (aCons (eVar 0) (aNil)))))
    (sSeq (sFor (iAny (eC (.str [97, 98, 99, 100, 101, 102, 103, 104, 105, 106, 107, 108, 109, 110, 111, 112, 113, 114, 115, 116, 117, 118, 119, 120, 121, 122]))) (tgName 2) ((sIf ((xOr ((xB ((eBin fNe ((eMk (callP G_parse_formula) (aCons ((eBin fAdd ((eBin fAdd (eC (.str [110, 111, 116, 40])) (eVar 2))) (eC (.str [41])))) (aCons (eC (.int 5)) (aNil))))) ((eMk mkTup (aCons (eC (.str [110, 111, 116])) (aCons (eVar 2) (aNil))))))))) ((xB ((eBin fNe ((eMk (callP (G_format_formula 20)) (aCons (eVar 2) (aNil)))) (eVar 2))))))) ((sRet (eC (.bl false)))) (sNil))))
    (sSeq (sSet 3 ((eMk mkLoc (aNil))))
    (sSeq (sFor (iRng1 (aCons (eC (.int 5)) (aNil))) (tgName 4) ((sSeq (sSet 5 ((eMk G_law_modulus (aCons (eVar 1) (aNil)))))
    (sSeq (sSet 6 ((eIf ((xB ((eBin fGt (eVar 4) (eC (.int 0)))))) ((eMk G_law_some_formula (aCons (eVar 1) (aCons (eVar 5) (aCons (eC (.int 8)) (aNil)))))) ((eMk G_law_limit_formula (aCons (eVar 1) (aCons (eVar 5) (aNil))))))))
    (sSeq (sSet 7 ((eMk (callP (G_law_text 20)) (aCons (eVar 6) (aNil)))))
    (sSeq (sIf ((xOr ((xB ((eBin fNe ((eMk (callP (G_format_formula 20)) (aCons (eVar 6) (aNil)))) (eVar 7))))) ((xB ((eBin fNe ((eMk (kwF 1 [0] (callP (G_format_formula 20))) (aCons (eVar 6) (aNil)))) (eVar 7))))))) ((sRet (eC (.bl false)))) (sNil))
    (sSeq (sIf ((xOr ((xB ((eBin fNe ((eMk fRepr (aCons ((eMk (callP G_parse_formula) (aCons (eVar 7) (aCons (eVar 5) (aNil))))) (aNil)))) ((eMk fRepr (aCons (eVar 6) (aNil)))))))) ((xB ((eBin fNe ((eMk (kwF 2 [1, 0] (callP G_parse_formula)) (aCons (eVar 5) (aCons (eVar 7) (aNil))))) (eVar 6))))))) ((sRet (eC (.bl false)))) (sNil))
    (sExpr ((eBm fAppend isLst (eVar 3) (aCons ((eMk mkTup (aCons ((eMk fRepr (aCons (eVar 6) (aNil)))) (aCons (eVar 7) (aNil))))) (aNil))))))))))))
    (sSeq (sFor (iAny (eVar 3)) (tgName 8) ((sFor (iAny (eVar 3)) (tgName 9) ((sIf ((xB ((eBin fNe ((eBin fEq ((eBin fIx (eVar 8) (eC (.int 0)))) ((eBin fIx (eVar 9) (eC (.int 0)))))) ((eBin fEq ((eBin fIx (eVar 8) (eC (.int 1)))) ((eBin fIx (eVar 9) (eC (.int 1)))))))))) ((sRet (eC (.bl false)))) (sNil))))))
    (sRet (eC (.bl true))))))))
noncomputable def G_law : SFn := fnS 1 10 g_law
structure Txt (w : World) (K : PySem.W.Frag) (mg : Str → Option Value) : Prop where
  b_int : mg "int" = none
  b_isinstance : mg "isinstance" = none
  b_len : mg "len" = none
  b_list : mg "list" = none
  b_max : mg "max" = none
  b_range : mg "range" = none
  b_repr : mg "repr" = none
  b_str : mg "str" = none
  b_tuple : mg "tuple" = none
  c_DIGITS : ∃ t, mg "DIGITS" = some (.str (sT [48, 49, 50, 51, 52, 53, 54, 55, 56, 57]) t)
  c_LETTERS : ∃ t, mg "LETTERS" = some (.str (sT [97, 98, 99, 100, 101, 102, 103, 104, 105, 106, 107, 108, 109, 110, 111, 112, 113, 114, 115, 116, 117, 118, 119, 120, 121, 122]) t)
  c_MAX_DEPTH : ∃ t, mg "MAX_DEPTH" = some (.int 12 t)
  c_MAX_LEAVES : ∃ t, mg "MAX_LEAVES" = some (.int 8 t)
  c_MAX_LETTERS : ∃ t, mg "MAX_LETTERS" = some (.int 6 t)
  c_MAX_TUPLES : ∃ t, mg "MAX_TUPLES" = some (.int 16 t)
  c_OPERANDS : HasKD w K mg "OPERANDS" kd_OPERANDS
  k_FormulaReader : HasCls K mg "FormulaReader" ["text", "modulus", "position", "stack", "leaves", "tuples", "depth"]
  d_format_formula : DefKwAt K mg "format_formula" (top 11) ["formula"] ["formula"] [0]
  d_read_residue : DefAt K mg "read_residue" (top 12) ["text", "start", "modulus"]
  d_FormulaReader_init : InitAt K mg "FormulaReader" "FormulaReader.__init__" (inClass (top 13) 0) ["self", "text", "modulus"]
  d_FormulaReader_read_word : MethAt K mg "FormulaReader" "read_word" "FormulaReader.read_word" (inClass (top 13) 1) ["self"]
  d_FormulaReader_read_start : MethAt K mg "FormulaReader" "read_start" "FormulaReader.read_start" (inClass (top 13) 2) ["self"]
  d_FormulaReader_finish : MethAt K mg "FormulaReader" "finish" "FormulaReader.finish" (inClass (top 13) 3) ["self", "value"]
  d_FormulaReader_is_too_large : MethAt K mg "FormulaReader" "is_too_large" "FormulaReader.is_too_large" (inClass (top 13) 4) ["self"]
  d_parse_formula : DefKwAt K mg "parse_formula" (top 14) ["text", "modulus"] ["modulus", "text"] [1, 0]
  d_law_pen : DefAt K mg "_law_pen" (top 16) ["script"]
  d_law_fresh : DefAt K mg "_law_fresh" (top 17) ["pen"]
  d_law_draw : DefAt K mg "_law_draw" (top 18) ["pen", "many"]
  d_law_modulus : DefAt K mg "_law_modulus" (top 19) ["pen"]
  d_law_leaf : DefAt K mg "_law_leaf" (top 20) ["pen", "q"]
  d_law_formula : DefAt K mg "_law_formula" (top 21) ["pen", "q", "leaves", "nots"]
  d_law_some_formula : DefAt K mg "_law_some_formula" (top 22) ["pen", "q", "leaves"]
  d_law_text : DefAt K mg "_law_text" (top 23) ["source"]
  d_law_limit_formula : DefAt K mg "_law_limit_formula" (top 24) ["pen", "q"]
section
variable {P : Program} {w : World} {K : PySem.W.Frag} {mg : Str → Option Value} {base : Heap}
theorem sc_format_formula : FnScope ["formula", "operand"] ["formula"] (defScope (top 11)) := ⟨rfl, rfl, rfl, by decide +kernel, rfl, by decide +kernel, by decide +kernel⟩
theorem ok_format_formula (T : Txt w K mg)  : ∀ k : Nat, HasFn P w K mg base "format_formula" (0 + k) (spP K mg (G_format_formula k)) ∧ HasFnK P w K mg base "format_formula" (0 + k) (spP K mg (G_format_formula k)) ["formula"] [0]
  | 0 => hasPK0 T.d_format_formula
  | k + 1 => by
    have h_format_formula := ok_format_formula T  k
    have nd := sc_format_formula.nd
    exact hasPK (k := 0 + k) T.d_format_formula sc_format_formula (fun f cdv A outer s H E hr => (qss_cons (qs_if (qt_not (qt_of (qe_isi (T := "tuple") (hm := T.b_isinstance) (hm2 := T.b_tuple) (he := (qe_var 0))))) (qss_one (qs_ret (qe_callTy o_str T.b_str (qa_cons (qe_var 0) qa_nil)))) qss_nil)
      (qss_one (qs_ret (qe_op o_add (qe_op o_add (qe_op o_add (qe_ix o_ix (qe_var 0) qe_int) (qe_str (i := [40]))) (qe_bm PySem.F.plainAttrs_str PySem.F.slot_str_join PySem.F.type_str_join o_join ty_str (qe_str (i := [44])) (qa_cons (qe_lc finL_ok rfl nd (blkOk_by (own := [("operand", 1)]) (N := ["formula", "operand"]) (sc := defScope (top 11)) (by decide +kernel)) rfl (qi_any (qe_slice newL (qe_var 0) (qo_some qe_int) qo_none)) (fun _ _ _ _ _ => pg_name nd rfl (by first | exact .inl rfl | exact .inr rfl)) (fun _ _ _ _ _ => qts_nil) (fun _ _ _ _ _ => (qe_call h_format_formula.1 (spOkP _) (hr.mono (by omega)) takes0 (qa_cons (qe_var 1) qa_nil)))) qa_nil))) (qe_str (i := [41])))))))
theorem sc_read_residue : FnScope ["text", "start", "modulus", "value", "end", "longer"] ["text", "start", "modulus"] (defScope (top 12)) := ⟨rfl, rfl, rfl, by decide +kernel, rfl, by decide +kernel, by decide +kernel⟩
theorem ok_read_residue (T : Txt w K mg)  : HasFn P w K mg base "read_residue" 1 (spP K mg G_read_residue) := by
  have nd := sc_read_residue.nd
  exact hasP (k := 0) T.d_read_residue sc_read_residue (fun f cdv A outer s H E hr => (qss_cons (qs_if (qt_w (qw_or (qt_cmp (o_eq hr) (qe_slice newL (qe_var 0) (qo_some (qe_var 1)) (qo_some (qe_op o_add (qe_var 1) qe_int))) (qe_str (i := []))) (qw_or (qt_cmp o_notInS (qe_ix o_ix (qe_var 0) (qe_var 1)) (qe_globS (z := [48, 49, 50, 51, 52, 53, 54, 55, 56, 57]) T.c_DIGITS) rfl) (qt_or1 (qt_cmp o_ge (qe_callTy o_int T.b_int (qa_cons (qe_ix o_ix (qe_var 0) (qe_var 1)) qa_nil)) (qe_var 2)))))) qss_never qss_nil)
      (qss_cons (qs_set nd (qe_callTy o_int T.b_int (qa_cons (qe_ix o_ix (qe_var 0) (qe_var 1)) qa_nil)))
      (qss_cons (qs_set nd (qe_op o_add (qe_var 1) qe_int))
      (qss_cons (qs_while 100000 (passes_of rfl) (qt_w (qw_and (qt_cmp o_lt (qe_var 4) (qe_callB o_len T.b_len (qa_cons (qe_var 0) qa_nil))) (qt_and1 (qt_cmp o_inS (qe_ix o_ix (qe_var 0) (qe_var 4)) (qe_globS (z := [48, 49, 50, 51, 52, 53, 54, 55, 56, 57]) T.c_DIGITS) rfl)))) (qss_cons (qs_set nd (qe_op o_add (qe_op o_mul qe_int (qe_var 3)) (qe_callTy o_int T.b_int (qa_cons (qe_ix o_ix (qe_var 0) (qe_var 4)) qa_nil))))
      (qss_cons (qs_if (qt_w (qw_or (qt_cmp (o_eq hr) (qe_var 3) qe_int) (qt_or1 (qt_cmp o_ge (qe_var 5) (qe_var 2))))) qss_never qss_nil)
      (qss_cons (qs_set nd (qe_var 5))
      (qss_one (qs_aug nd in_addI qe_int))))))
      (qss_one (qs_ret (qe_tup (qa_cons (qe_var 3) (qa_cons (qe_var 4) qa_nil))))))))))
theorem sc_FormulaReader_init : FnScope ["self", "text", "modulus"] ["self", "text", "modulus"] (defScope (inClass (top 13) 0)) := ⟨rfl, rfl, rfl, by decide +kernel, rfl, by decide +kernel, by decide +kernel⟩
theorem ok_FormulaReader_init (T : Txt w K mg)  : HasInit P w K mg base "FormulaReader" 1 (spS K mg G_FormulaReader_init) := by
  have nd := sc_FormulaReader_init.nd
  exact hasI (k := 0) T.d_FormulaReader_init sc_FormulaReader_init (fun f cdv A outer s H E hr => (qss_cons (qs_fld T.k_FormulaReader (qe_var 0) (qe_var 1))
      (qss_cons (qs_fld T.k_FormulaReader (qe_var 0) (qe_var 2))
      (qss_cons (qs_fld T.k_FormulaReader (qe_var 0) qe_int)
      (qss_cons (qs_fld T.k_FormulaReader (qe_var 0) (qe_lstN qa_nil))
      (qss_cons (qs_fld T.k_FormulaReader (qe_var 0) qe_int)
      (qss_cons (qs_fld T.k_FormulaReader (qe_var 0) qe_int)
      (qss_one (qs_fld T.k_FormulaReader (qe_var 0) qe_int)))))))))
theorem sc_FormulaReader_read_word : FnScope ["self", "start"] ["self"] (defScope (inClass (top 13) 1)) := ⟨rfl, rfl, rfl, by decide +kernel, rfl, by decide +kernel, by decide +kernel⟩
theorem ok_FormulaReader_read_word (T : Txt w K mg)  : HasMeth P w K mg base "FormulaReader" "read_word" 1 (spS K mg G_FormulaReader_read_word) := by
  have nd := sc_FormulaReader_read_word.nd
  exact hasM (k := 0) T.d_FormulaReader_read_word sc_FormulaReader_read_word (fun f cdv A outer s H E hr => (qss_cons (qs_set nd (qe_fld T.k_FormulaReader (qe_var 0)))
      (qss_cons (qs_while 100000 (passes_of rfl) (qt_w (qw_and (qt_cmp o_lt (qe_fld T.k_FormulaReader (qe_var 0)) (qe_callB o_len T.b_len (qa_cons (qe_fld T.k_FormulaReader (qe_var 0)) qa_nil))) (qt_and1 (qt_cmp o_inS (qe_ix o_ix (qe_fld T.k_FormulaReader (qe_var 0)) (qe_fld T.k_FormulaReader (qe_var 0))) (qe_globS (z := [97, 98, 99, 100, 101, 102, 103, 104, 105, 106, 107, 108, 109, 110, 111, 112, 113, 114, 115, 116, 117, 118, 119, 120, 121, 122]) T.c_LETTERS) rfl)))) (qss_cons (qs_if (qt_cmp (o_eq hr) (qe_op o_sub (qe_fld T.k_FormulaReader (qe_var 0)) (qe_var 1)) (qe_globI (i := 6) T.c_MAX_LETTERS)) qss_never qss_nil)
      (qss_one (qs_fldaug T.k_FormulaReader ina_add (qe_var 0) qe_int))))
      (qss_one (qs_ret (qe_slice newL (qe_fld T.k_FormulaReader (qe_var 0)) (qo_some (qe_var 1)) (qo_some (qe_fld T.k_FormulaReader (qe_var 0)))))))))
theorem sc_FormulaReader_read_start : FnScope ["self", "value", "word"] ["self"] (defScope (inClass (top 13) 2)) := ⟨rfl, rfl, rfl, by decide +kernel, rfl, by decide +kernel, by decide +kernel⟩
theorem ok_FormulaReader_read_start (T : Txt w K mg) (h_read_residue : HasFn P w K mg base "read_residue" 1 (spP K mg G_read_residue)) (h_FormulaReader_read_word : HasMeth P w K mg base "FormulaReader" "read_word" 1 (spS K mg G_FormulaReader_read_word)) : HasMeth P w K mg base "FormulaReader" "read_start" 2 (spS K mg G_FormulaReader_read_start) := by
  have nd := sc_FormulaReader_read_start.nd
  exact hasM (k := 1) T.d_FormulaReader_read_start sc_FormulaReader_read_start (fun f cdv A outer s H E hr => (qss_cons (qs_if (qt_cmp o_inS (qe_slice newL (qe_fld T.k_FormulaReader (qe_var 0)) (qo_some (qe_fld T.k_FormulaReader (qe_var 0))) (qo_some (qe_op o_add (qe_fld T.k_FormulaReader (qe_var 0)) qe_int))) (qe_globS (z := [48, 49, 50, 51, 52, 53, 54, 55, 56, 57]) T.c_DIGITS) rfl) (qss_cons (qs_asg (qe_call h_read_residue (spOkP _) (hr.mono (by omega)) (takes_of rfl rfl rfl rfl) (qa_cons (qe_fld T.k_FormulaReader (qe_var 0)) (qa_cons (qe_fld T.k_FormulaReader (qe_var 0)) (qa_cons (qe_fld T.k_FormulaReader (qe_var 0)) qa_nil)))) (qg_tup rfl (qgs_cons (qg_name nd) (qgs_cons (qg_fld T.k_FormulaReader (qe_var 0)) qgs_nil))))
      (qss_cons (qs_fldaug T.k_FormulaReader ina_add (qe_var 0) qe_int)
      (qss_one (qs_ret (qe_var 1))))) qss_nil)
      (qss_cons (qs_set nd (qe_meth0 h_FormulaReader_read_word (spOkS _) (hr.mono (by omega)) (takes_of rfl rfl rfl rfl) (qe_var 0)))
      (qss_cons (qs_if (qt_w (qw_or (qt_cmp (o_ne hr) (qe_slice newL (qe_fld T.k_FormulaReader (qe_var 0)) (qo_some (qe_fld T.k_FormulaReader (qe_var 0))) (qo_some (qe_op o_add (qe_fld T.k_FormulaReader (qe_var 0)) qe_int))) (qe_str (i := [40]))) (qt_or1 (qt_notInKD T.c_OPERANDS (qe_var 2))))) (qss_cons (qs_if (qt_w (qw_or (qt_cmp (o_eq hr) (qe_var 2) (qe_str (i := []))) (qt_or1 (qt_cmp (o_eq hr) (qe_slice newL (qe_fld T.k_FormulaReader (qe_var 0)) (qo_some (qe_fld T.k_FormulaReader (qe_var 0))) (qo_some (qe_op o_add (qe_fld T.k_FormulaReader (qe_var 0)) qe_int))) (qe_str (i := [40])))))) qss_never qss_nil)
      (qss_cons (qs_fldaug T.k_FormulaReader ina_add (qe_var 0) qe_int)
      (qss_one (qs_ret (qe_var 2))))) qss_nil)
      (qss_cons (qs_fldaug T.k_FormulaReader ina_add (qe_var 0) qe_int)
      (qss_cons (qs_expr (qe_bm PySem.F.plainAttrs_list PySem.F.slot_list_append PySem.F.type_list_append o_append ty_lst (qe_fld T.k_FormulaReader (qe_var 0)) (qa_cons (qe_lstN (qa_cons (qe_var 2) qa_nil)) qa_nil)))
      (qss_cons (qs_fldaug T.k_FormulaReader ina_add (qe_var 0) qe_int)
      (qss_cons (qs_fld T.k_FormulaReader (qe_var 0) (qe_callB (o_max2 rfl) T.b_max (qa_cons (qe_fld T.k_FormulaReader (qe_var 0)) (qa_cons (qe_callB o_len T.b_len (qa_cons (qe_fld T.k_FormulaReader (qe_var 0)) qa_nil)) qa_nil))))
      (qss_one (qs_ret qe_non))))))))))
theorem sc_FormulaReader_finish : FnScope ["self", "value", "parts", "mark"] ["self", "value"] (defScope (inClass (top 13) 3)) := ⟨rfl, rfl, rfl, by decide +kernel, rfl, by decide +kernel, by decide +kernel⟩
theorem ok_FormulaReader_finish (T : Txt w K mg)  : HasMeth P w K mg base "FormulaReader" "finish" 1 (spS K mg G_FormulaReader_finish) := by
  have nd := sc_FormulaReader_finish.nd
  exact hasM (k := 0) T.d_FormulaReader_finish sc_FormulaReader_finish (fun f cdv A outer s H E hr => (qss_cons (qs_while 100000 (passes_of rfl) (qt_cmp (o_ne hr) (qe_fld T.k_FormulaReader (qe_var 0)) (qe_lst qa_nil)) (qss_cons (qs_set nd (qe_ix o_ix (qe_fld T.k_FormulaReader (qe_var 0)) (qe_un o_neg qe_int)))
      (qss_cons (qs_expr (qe_bm PySem.F.plainAttrs_list PySem.F.slot_list_append PySem.F.type_list_append o_append ty_lst (qe_var 2) (qa_cons (qe_var 1) qa_nil)))
      (qss_cons (qs_set nd (qe_if (qt_cmp o_le (qe_callB o_len T.b_len (qa_cons (qe_var 2) qa_nil)) (qe_ixKD T.c_OPERANDS (qe_ix o_ix (qe_var 2) qe_int))) (qe_str (i := [44])) (qe_str (i := [41]))))
      (qss_cons (qs_if (qt_cmp (o_ne hr) (qe_slice newL (qe_fld T.k_FormulaReader (qe_var 0)) (qo_some (qe_fld T.k_FormulaReader (qe_var 0))) (qo_some (qe_op o_add (qe_fld T.k_FormulaReader (qe_var 0)) qe_int))) (qe_var 3)) qss_never qss_nil)
      (qss_cons (qs_fldaug T.k_FormulaReader ina_add (qe_var 0) qe_int)
      (qss_cons (qs_if (qt_cmp (o_eq hr) (qe_var 3) (qe_str (i := [44]))) (qss_one (qs_ret qe_non)) qss_nil)
      (qss_one (qs_set nd (qe_callTy o_tuple T.b_tuple (qa_cons (qe_bm0 PySem.F.plainAttrs_list PySem.F.slot_list_pop PySem.F.type_list_pop o_pop ty_lst (qe_fld T.k_FormulaReader (qe_var 0))) qa_nil)))))))))))
      (qss_cons (qs_if (qt_cmp (o_ne hr) (qe_fld T.k_FormulaReader (qe_var 0)) (qe_callB o_len T.b_len (qa_cons (qe_fld T.k_FormulaReader (qe_var 0)) qa_nil))) qss_never qss_nil)
      (qss_one (qs_ret (qe_var 1))))))
theorem sc_FormulaReader_is_too_large : FnScope ["self"] ["self"] (defScope (inClass (top 13) 4)) := ⟨rfl, rfl, rfl, by decide +kernel, rfl, by decide +kernel, by decide +kernel⟩
theorem ok_FormulaReader_is_too_large (T : Txt w K mg)  : HasMeth P w K mg base "FormulaReader" "is_too_large" 1 (spS K mg G_FormulaReader_is_too_large) := by
  have nd := sc_FormulaReader_is_too_large.nd
  exact hasM (k := 0) T.d_FormulaReader_is_too_large sc_FormulaReader_is_too_large (fun f cdv A outer s H E hr => (qss_one (qs_ret (qe_or (qe_cmp o_gt (qe_fld T.k_FormulaReader (qe_var 0)) (qe_globI (i := 8) T.c_MAX_LEAVES)) (qe_or (qe_cmp o_gt (qe_fld T.k_FormulaReader (qe_var 0)) (qe_globI (i := 16) T.c_MAX_TUPLES)) (qe_one (qe_cmp o_gt (qe_fld T.k_FormulaReader (qe_var 0)) (qe_globI (i := 12) T.c_MAX_DEPTH))))))))
theorem sc_parse_formula : FnScope ["text", "modulus", "reader", "formula", "value"] ["text", "modulus"] (defScope (top 14)) := ⟨rfl, rfl, rfl, by decide +kernel, rfl, by decide +kernel, by decide +kernel⟩
theorem ok_parse_formula (T : Txt w K mg) (h_FormulaReader_init : HasInit P w K mg base "FormulaReader" 1 (spS K mg G_FormulaReader_init)) (h_FormulaReader_read_start : HasMeth P w K mg base "FormulaReader" "read_start" 2 (spS K mg G_FormulaReader_read_start)) (h_FormulaReader_finish : HasMeth P w K mg base "FormulaReader" "finish" 1 (spS K mg G_FormulaReader_finish)) (h_FormulaReader_is_too_large : HasMeth P w K mg base "FormulaReader" "is_too_large" 1 (spS K mg G_FormulaReader_is_too_large)) : HasFn P w K mg base "parse_formula" 3 (spP K mg G_parse_formula) ∧ HasFnK P w K mg base "parse_formula" 3 (spP K mg G_parse_formula) ["modulus", "text"] [1, 0] := by
  have nd := sc_parse_formula.nd
  exact hasPK (k := 2) T.d_parse_formula sc_parse_formula (fun f cdv A outer s H E hr => (qss_cons (qs_set nd (qe_make h_FormulaReader_init (spOkS _) (hr.mono (by omega)) (takes_of rfl rfl rfl rfl) (qa_cons (qe_var 0) (qa_cons (qe_var 1) qa_nil))))
      (qss_cons (qs_set nd qe_non)
      (qss_cons (qs_while 100000 (passes_of rfl) (qt_cmp o_isN (qe_var 3) qe_non) (qss_cons (qs_set nd (qe_meth0 h_FormulaReader_read_start (spOkS _) (hr.mono (by omega)) (takes_of rfl rfl rfl rfl) (qe_var 2)))
      (qss_one (qs_if (qt_cmp o_notN (qe_var 4) qe_non) (qss_one (qs_set nd (qe_meth h_FormulaReader_finish (spOkS _) (hr.mono (by omega)) (takes_of rfl rfl rfl rfl) (qe_var 2) (qa_cons (qe_var 4) qa_nil)))) qss_nil))))
      (qss_cons (qs_if (qt_of (qe_meth0 h_FormulaReader_is_too_large (spOkS _) (hr.mono (by omega)) (takes_of rfl rfl rfl rfl) (qe_var 2))) qss_never qss_nil)
      (qss_one (qs_ret (qe_var 3))))))))
theorem sc_law_pen : FnScope ["script"] ["script"] (defScope (top 16)) := ⟨rfl, rfl, rfl, by decide +kernel, rfl, by decide +kernel, by decide +kernel⟩
theorem ok_law_pen (T : Txt w K mg)  : HasFn P w K mg base "_law_pen" 1 (spS K mg G_law_pen) := by
  have nd := sc_law_pen.nd
  exact hasS (k := 0) T.d_law_pen sc_law_pen (fun f cdv A outer s H E hr => (qss_one (qs_ret (qe_lstN (qa_cons (qe_callTy (o_list newL) T.b_list (qa_cons (qe_slice newL (qe_var 0) qo_none (qo_some qe_int)) qa_nil)) (qa_cons qe_int (qa_cons qe_int qa_nil)))))))
theorem sc_law_fresh : FnScope ["pen", "at", "cell", "p", "state", "found", "turn"] ["pen"] (defScope (top 17)) := ⟨rfl, rfl, rfl, by decide +kernel, rfl, by decide +kernel, by decide +kernel⟩
theorem ok_law_fresh (T : Txt w K mg)  : HasFn P w K mg base "_law_fresh" 1 (spS K mg G_law_fresh) := by
  have nd := sc_law_fresh.nd
  exact hasS (k := 0) T.d_law_fresh sc_law_fresh (fun f cdv A outer s H E hr => (qss_cons (qs_set nd (qe_ix o_ix (qe_var 0) qe_int))
      (qss_cons (qs_asg (qe_op o_add (qe_var 1) qe_int) (qg_sub o_setL (qe_var 0) qe_int))
      (qss_cons (qs_set nd qe_int)
      (qss_cons (qs_if (qt_cmp (o_ne hr) (qe_ix o_ix (qe_var 0) qe_int) (qe_lst qa_nil)) (qss_one (qs_set nd (qe_ix o_ix (qe_ix o_ix (qe_var 0) qe_int) (qe_op o_mod (qe_var 1) (qe_callB o_len T.b_len (qa_cons (qe_ix o_ix (qe_var 0) qe_int) qa_nil)))))) qss_nil)
      (qss_cons (qs_if (qt_w (qw_and (qt_cmp o_lt (qe_var 1) (qe_callB o_len T.b_len (qa_cons (qe_ix o_ix (qe_var 0) qe_int) qa_nil))) (qt_and1 (qt_cmp o_ge (qe_var 2) (qe_op o_pow qe_int qe_int))))) (qss_one (qs_ret (qe_op o_sub (qe_var 2) (qe_op o_pow qe_int qe_int)))) qss_nil)
      (qss_cons (qs_set nd qe_int)
      (qss_cons (qs_set nd (qe_op o_mod (qe_op o_add (qe_op o_add (qe_op o_mul (qe_var 2) qe_int) (qe_op o_mul qe_int (qe_var 1))) qe_int) (qe_var 3)))
      (qss_cons (qs_set nd (qe_var 4))
      (qss_cons (qs_for (passes_of rfl) rfl (qi_range1 T.b_range (qa_cons qe_int qa_nil)) (qg_name nd) (qss_cons (qs_set nd (qe_op o_mod (qe_op o_add (qe_op o_add (qe_op o_mul (qe_var 4) (qe_var 4)) (qe_op o_mul (qe_op o_mul qe_int (qe_op o_add (qe_var 6) qe_int)) (qe_op o_add (qe_var 1) qe_int))) (qe_var 2)) (qe_var 3)))
      (qss_one (qs_set nd (qe_op o_add (qe_op o_mul (qe_var 5) (qe_var 3)) (qe_var 4))))))
      (qss_one (qs_ret (qe_var 5)))))))))))))
theorem sc_law_draw : FnScope ["pen", "many", "digit"] ["pen", "many"] (defScope (top 18)) := ⟨rfl, rfl, rfl, by decide +kernel, rfl, by decide +kernel, by decide +kernel⟩
theorem ok_law_draw (T : Txt w K mg) (h_law_fresh : HasFn P w K mg base "_law_fresh" 1 (spS K mg G_law_fresh)) : HasFn P w K mg base "_law_draw" 2 (spS K mg G_law_draw) := by
  have nd := sc_law_draw.nd
  exact hasS (k := 1) T.d_law_draw sc_law_draw (fun f cdv A outer s H E hr => (qss_cons (qs_if (qt_cmp o_lt (qe_ix o_ix (qe_var 0) qe_int) (qe_var 1)) (qss_one (qs_asg (qe_call h_law_fresh (spOkS _) (hr.mono (by omega)) (takes_of rfl rfl rfl rfl) (qa_cons (qe_var 0) qa_nil)) (qg_sub o_setL (qe_var 0) qe_int))) qss_nil)
      (qss_cons (qs_set nd (qe_op o_mod (qe_ix o_ix (qe_var 0) qe_int) (qe_var 1)))
      (qss_cons (qs_asg (qe_op o_div (qe_ix o_ix (qe_var 0) qe_int) (qe_var 1)) (qg_sub o_setL (qe_var 0) qe_int))
      (qss_one (qs_ret (qe_var 2)))))))
theorem sc_law_modulus : FnScope ["pen"] ["pen"] (defScope (top 19)) := ⟨rfl, rfl, rfl, by decide +kernel, rfl, by decide +kernel, by decide +kernel⟩
theorem ok_law_modulus (T : Txt w K mg) (h_law_draw : HasFn P w K mg base "_law_draw" 2 (spS K mg G_law_draw)) : HasFn P w K mg base "_law_modulus" 3 (spS K mg G_law_modulus) := by
  have nd := sc_law_modulus.nd
  exact hasS (k := 2) T.d_law_modulus sc_law_modulus (fun f cdv A outer s H E hr => (qss_one (qs_ret (qe_ix o_ix (qe_lst (qa_cons qe_int (qa_cons qe_int (qa_cons qe_int (qa_cons qe_int (qa_cons qe_int (qa_cons qe_int (qa_cons qe_int (qa_cons qe_int (qa_cons qe_int (qa_cons (qe_op o_add qe_int (qe_call h_law_draw (spOkS _) (hr.mono (by omega)) (takes_of rfl rfl rfl rfl) (qa_cons (qe_var 0) (qa_cons qe_int qa_nil)))) qa_nil))))))))))) (qe_call h_law_draw (spOkS _) (hr.mono (by omega)) (takes_of rfl rfl rfl rfl) (qa_cons (qe_var 0) (qa_cons qe_int qa_nil)))))))
theorem sc_law_leaf : FnScope ["pen", "q", "option"] ["pen", "q"] (defScope (top 20)) := ⟨rfl, rfl, rfl, by decide +kernel, rfl, by decide +kernel, by decide +kernel⟩
theorem ok_law_leaf (T : Txt w K mg) (h_law_draw : HasFn P w K mg base "_law_draw" 2 (spS K mg G_law_draw)) : HasFn P w K mg base "_law_leaf" 3 (spS K mg G_law_leaf) := by
  have nd := sc_law_leaf.nd
  exact hasS (k := 2) T.d_law_leaf sc_law_leaf (fun f cdv A outer s H E hr => (qss_cons (qs_set nd (qe_call h_law_draw (spOkS _) (hr.mono (by omega)) (takes_of rfl rfl rfl rfl) (qa_cons (qe_var 0) (qa_cons qe_int qa_nil))))
      (qss_cons (qs_if (qt_cmp o_lt (qe_var 2) qe_int) (qss_one (qs_ret (qe_ix o_ix (qe_lst (qa_cons (qe_str (i := [120])) (qa_cons (qe_str (i := [120, 97])) (qa_cons (qe_str (i := [120, 98])) (qa_cons (qe_str (i := [97, 98, 99, 100, 101, 102])) (qa_cons (qe_str (i := [97, 98, 99, 100, 101, 103])) (qa_cons (qe_str (i := [120])) qa_nil))))))) (qe_var 2)))) qss_nil)
      (qss_one (qs_ret (qe_ix o_ix (qe_lst (qa_cons qe_int (qa_cons qe_int (qa_cons (qe_call h_law_draw (spOkS _) (hr.mono (by omega)) (takes_of rfl rfl rfl rfl) (qa_cons (qe_var 0) (qa_cons (qe_var 1) qa_nil))) qa_nil)))) (qe_op o_sub (qe_var 2) qe_int)))))))
theorem sc_law_formula : FnScope ["pen", "q", "leaves", "nots", "found", "left", "word"] ["pen", "q", "leaves", "nots"] (defScope (top 21)) := ⟨rfl, rfl, rfl, by decide +kernel, rfl, by decide +kernel, by decide +kernel⟩
theorem ok_law_formula (T : Txt w K mg) (h_law_draw : HasFn P w K mg base "_law_draw" 2 (spS K mg G_law_draw)) (h_law_leaf : HasFn P w K mg base "_law_leaf" 3 (spS K mg G_law_leaf)) : ∀ k : Nat, HasFn P w K mg base "_law_formula" (3 + k) (spS K mg (G_law_formula k))
  | 0 => hasS0 T.d_law_formula
  | k + 1 => by
    have h_law_formula := ok_law_formula T h_law_draw h_law_leaf k
    have nd := sc_law_formula.nd
    exact hasS (k := 3 + k) T.d_law_formula sc_law_formula (fun f cdv A outer s H E hr => (qss_cons (qs_set nd qe_non)
      (qss_cons (qs_if (qt_w (qw_or (qt_cmp o_lt (qe_var 2) qe_int) (qt_or1 (qt_cmp (o_eq hr) (qe_call h_law_draw (spOkS _) (hr.mono (by omega)) (takes_of rfl rfl rfl rfl) (qa_cons (qe_var 0) (qa_cons qe_int qa_nil))) qe_int)))) (qss_one (qs_set nd (qe_call h_law_leaf (spOkS _) (hr.mono (by omega)) (takes_of rfl rfl rfl rfl) (qa_cons (qe_var 0) (qa_cons (qe_var 1) qa_nil))))) (qss_cons (qs_set nd (qe_op o_add qe_int (qe_call h_law_draw (spOkS _) (hr.mono (by omega)) (takes_of rfl rfl rfl rfl) (qa_cons (qe_var 0) (qa_cons (qe_op o_sub (qe_var 2) qe_int) qa_nil)))))
      (qss_cons (qs_set nd (qe_ix o_ix (qe_lst (qa_cons (qe_str (i := [112, 108, 117, 115])) (qa_cons (qe_str (i := [109, 105, 110, 117, 115])) (qa_cons (qe_str (i := [116, 105, 109, 101, 115])) (qa_cons (qe_str (i := [97, 110, 100])) (qa_cons (qe_str (i := [111, 114])) (qa_cons (qe_str (i := [116, 105, 109, 101, 115])) qa_nil))))))) (qe_call h_law_draw (spOkS _) (hr.mono (by omega)) (takes_of rfl rfl rfl rfl) (qa_cons (qe_var 0) (qa_cons qe_int qa_nil)))))
      (qss_one (qs_set nd (qe_tup (qa_cons (qe_var 6) (qa_cons (qe_call h_law_formula (spOkS _) (hr.mono (by omega)) (takes_of rfl rfl rfl rfl) (qa_cons (qe_var 0) (qa_cons (qe_var 1) (qa_cons (qe_var 5) (qa_cons (qe_var 3) qa_nil))))) (qa_cons (qe_call h_law_formula (spOkS _) (hr.mono (by omega)) (takes_of rfl rfl rfl rfl) (qa_cons (qe_var 0) (qa_cons (qe_var 1) (qa_cons (qe_op o_sub (qe_var 2) (qe_var 5)) (qa_cons (qe_var 3) qa_nil))))) qa_nil)))))))))
      (qss_cons (qs_if (qt_w (qw_and (qt_cmp o_gt (qe_ix o_ix (qe_var 3) qe_int) qe_int) (qt_and1 (qt_cmp (o_eq hr) (qe_call h_law_draw (spOkS _) (hr.mono (by omega)) (takes_of rfl rfl rfl rfl) (qa_cons (qe_var 0) (qa_cons qe_int qa_nil))) qe_int)))) (qss_cons (qs_asg (qe_op o_sub (qe_ix o_ix (qe_var 3) qe_int) qe_int) (qg_sub o_setL (qe_var 3) qe_int))
      (qss_one (qs_set nd (qe_tup (qa_cons (qe_str (i := [110, 111, 116])) (qa_cons (qe_var 4) qa_nil)))))) qss_nil)
      (qss_one (qs_ret (qe_var 4)))))))
theorem sc_law_some_formula : FnScope ["pen", "q", "leaves"] ["pen", "q", "leaves"] (defScope (top 22)) := ⟨rfl, rfl, rfl, by decide +kernel, rfl, by decide +kernel, by decide +kernel⟩
theorem ok_law_some_formula (T : Txt w K mg) (h_law_draw : HasFn P w K mg base "_law_draw" 2 (spS K mg G_law_draw)) (h_law_formula : HasFn P w K mg base "_law_formula" (3 + 20) (spS K mg (G_law_formula 20))) : HasFn P w K mg base "_law_some_formula" 24 (spS K mg G_law_some_formula) := by
  have nd := sc_law_some_formula.nd
  exact hasS (k := 23) T.d_law_some_formula sc_law_some_formula (fun f cdv A outer s H E hr => (qss_one (qs_ret (qe_call h_law_formula (spOkS _) (hr.mono (by omega)) (takes_of rfl rfl rfl rfl) (qa_cons (qe_var 0) (qa_cons (qe_var 1) (qa_cons (qe_op o_add qe_int (qe_call h_law_draw (spOkS _) (hr.mono (by omega)) (takes_of rfl rfl rfl rfl) (qa_cons (qe_var 0) (qa_cons (qe_var 2) qa_nil)))) (qa_cons (qe_lstN (qa_cons qe_int qa_nil)) qa_nil))))))))
theorem sc_law_text : FnScope ["source", "part"] ["source"] (defScope (top 23)) := ⟨rfl, rfl, rfl, by decide +kernel, rfl, by decide +kernel, by decide +kernel⟩
theorem ok_law_text (T : Txt w K mg)  : ∀ k : Nat, HasFn P w K mg base "_law_text" (0 + k) (spP K mg (G_law_text k))
  | 0 => hasP0 T.d_law_text
  | k + 1 => by
    have h_law_text := ok_law_text T  k
    have nd := sc_law_text.nd
    exact hasP (k := 0 + k) T.d_law_text sc_law_text (fun f cdv A outer s H E hr => (qss_cons (qs_if (qt_not (qt_of (qe_isi (T := "tuple") (hm := T.b_isinstance) (hm2 := T.b_tuple) (he := (qe_var 0))))) (qss_one (qs_ret (qe_callTy o_str T.b_str (qa_cons (qe_var 0) qa_nil)))) qss_nil)
      (qss_one (qs_ret (qe_op o_add (qe_op o_add (qe_op o_add (qe_ix o_ix (qe_var 0) qe_int) (qe_str (i := [40]))) (qe_bm PySem.F.plainAttrs_str PySem.F.slot_str_join PySem.F.type_str_join o_join ty_str (qe_str (i := [44])) (qa_cons (qe_lc finL_ok rfl nd (blkOk_by (own := [("part", 1)]) (N := ["source", "part"]) (sc := defScope (top 23)) (by decide +kernel)) rfl (qi_any (qe_slice newL (qe_var 0) (qo_some qe_int) qo_none)) (fun _ _ _ _ _ => pg_name nd rfl (by first | exact .inl rfl | exact .inr rfl)) (fun _ _ _ _ _ => qts_nil) (fun _ _ _ _ _ => (qe_call h_law_text (spOkP _) (hr.mono (by omega)) takes0 (qa_cons (qe_var 1) qa_nil)))) qa_nil))) (qe_str (i := [41])))))))
theorem sc_law_limit_formula : FnScope ["pen", "q", "option", "found", "k", "other"] ["pen", "q"] (defScope (top 24)) := ⟨rfl, rfl, rfl, by decide +kernel, rfl, by decide +kernel, by decide +kernel⟩
theorem ok_law_limit_formula (T : Txt w K mg) (h_law_draw : HasFn P w K mg base "_law_draw" 2 (spS K mg G_law_draw)) : HasFn P w K mg base "_law_limit_formula" 3 (spS K mg G_law_limit_formula) := by
  have nd := sc_law_limit_formula.nd
  exact hasS (k := 2) T.d_law_limit_formula sc_law_limit_formula (fun f cdv A outer s H E hr => (qss_cons (qs_set nd (qe_call h_law_draw (spOkS _) (hr.mono (by omega)) (takes_of rfl rfl rfl rfl) (qa_cons (qe_var 0) (qa_cons qe_int qa_nil))))
      (qss_cons (qs_set nd (qe_ix o_ix (qe_lst (qa_cons (qe_str (i := [112, 108, 117, 115])) (qa_cons (qe_str (i := [111, 114])) (qa_cons (qe_str (i := [120])) (qa_cons (qe_op o_sub (qe_var 1) qe_int) qa_nil))))) (qe_call h_law_draw (spOkS _) (hr.mono (by omega)) (takes_of rfl rfl rfl rfl) (qa_cons (qe_var 0) (qa_cons qe_int qa_nil)))))
      (qss_cons (qs_if (qt_cmp (o_eq hr) (qe_var 2) qe_int) (qss_one (qs_for (passes_of rfl) rfl (qi_range1 T.b_range (qa_cons qe_int qa_nil)) (qg_name nd) (qss_one (qs_set nd (qe_if (qt_cmp (o_eq hr) (qe_call h_law_draw (spOkS _) (hr.mono (by omega)) (takes_of rfl rfl rfl rfl) (qa_cons (qe_var 0) (qa_cons qe_int qa_nil))) qe_int) (qe_tup (qa_cons (qe_str (i := [116, 105, 109, 101, 115])) (qa_cons (qe_var 3) (qa_cons (qe_str (i := [110, 111, 116])) qa_nil)))) (qe_tup (qa_cons (qe_str (i := [109, 105, 110, 117, 115])) (qa_cons (qe_str (i := [121])) (qa_cons (qe_var 3) qa_nil))))))))) (qss_one (qs_if (qt_cmp (o_eq hr) (qe_var 2) qe_int) (qss_one (qs_for (passes_of rfl) rfl (qi_range1 T.b_range (qa_cons qe_int qa_nil)) (qg_name nd) (qss_one (qs_set nd (qe_tup (qa_cons (qe_str (i := [110, 111, 116])) (qa_cons (qe_var 3) qa_nil))))))) (qss_cons (qs_set nd (qe_var 3))
      (qss_cons (qs_for (passes_of rfl) rfl (qi_range1 T.b_range (qa_cons qe_int qa_nil)) (qg_name nd) (qss_one (qs_set nd (qe_tup (qa_cons (qe_str (i := [110, 111, 116])) (qa_cons (qe_var 3) qa_nil))))))
      (qss_cons (qs_for (passes_of rfl) rfl (qi_range1 T.b_range (qa_cons qe_int qa_nil)) (qg_name nd) (qss_one (qs_set nd (qe_tup (qa_cons (qe_str (i := [110, 111, 116])) (qa_cons (qe_var 5) qa_nil))))))
      (qss_one (qs_set nd (qe_tup (qa_cons (qe_str (i := [97, 110, 100])) (qa_cons (qe_var 3) (qa_cons (qe_var 5) qa_nil))))))))))))
      (qss_one (qs_ret (qe_var 3)))))))
theorem sc_law : FnScope ["script", "pen", "letter", "seen", "turn", "q", "source", "page", "one", "other"] ["script"] (defScope (top 25)) := ⟨rfl, rfl, rfl, by decide +kernel, rfl, by decide +kernel, by decide +kernel⟩
theorem ok_law {f : Addr} {fd : FuncData} (F : Fun K "law" "law" (top 25) f fd) (T : Txt w K mg) (h_format_formula : HasFn P w K mg base "format_formula" (0 + 20) (spP K mg (G_format_formula 20)) ∧ HasFnK P w K mg base "format_formula" (0 + 20) (spP K mg (G_format_formula 20)) ["formula"] [0]) (h_parse_formula : HasFn P w K mg base "parse_formula" 3 (spP K mg G_parse_formula) ∧ HasFnK P w K mg base "parse_formula" 3 (spP K mg G_parse_formula) ["modulus", "text"] [1, 0]) (h_law_pen : HasFn P w K mg base "_law_pen" 1 (spS K mg G_law_pen)) (h_law_modulus : HasFn P w K mg base "_law_modulus" 3 (spS K mg G_law_modulus)) (h_law_some_formula : HasFn P w K mg base "_law_some_formula" 24 (spS K mg G_law_some_formula)) (h_law_text : HasFn P w K mg base "_law_text" (0 + 20) (spP K mg (G_law_text 20))) (h_law_limit_formula : HasFn P w K mg base "_law_limit_formula" 3 (spS K mg G_law_limit_formula)) : AtTop P w K mg base f fd "script" (spS K mg (fnS 1 10 g_law)) := by
  have nd := sc_law.nd
  exact atTop (k := 24) F sc_law ⟨rfl, by decide, by decide⟩ (fun cdv s H E hr => (qss_cons (qs_set nd (qe_call h_law_pen (spOkS _) (hr.mono (by omega)) (takes_of rfl rfl rfl rfl) (qa_cons (qe_var 0) qa_nil)))
      (qss_cons (qs_for (passes_of rfl) rfl (qi_any (qe_str (i := [97, 98, 99, 100, 101, 102, 103, 104, 105, 106, 107, 108, 109, 110, 111, 112, 113, 114, 115, 116, 117, 118, 119, 120, 121, 122]))) (qg_name nd) (qss_one (qs_if (qt_w (qw_or (qt_cmp (o_ne hr) (qe_call h_parse_formula.1 (spOkP _) (hr.mono (by omega)) (takes_of rfl rfl rfl rfl) (qa_cons (qe_op o_add (qe_op o_add (qe_str (i := [110, 111, 116, 40])) (qe_var 2)) (qe_str (i := [41]))) (qa_cons qe_int qa_nil))) (qe_tup (qa_cons (qe_str (i := [110, 111, 116])) (qa_cons (qe_var 2) qa_nil)))) (qt_or1 (qt_cmp (o_ne hr) (qe_call h_format_formula.1 (spOkP _) (hr.mono (by omega)) (takes_of rfl rfl rfl rfl) (qa_cons (qe_var 2) qa_nil)) (qe_var 2))))) (qss_one (qs_ret qe_bl)) qss_nil)))
      (qss_cons (qs_set nd (qe_lstN qa_nil))
      (qss_cons (qs_for (passes_of rfl) rfl (qi_range1 T.b_range (qa_cons qe_int qa_nil)) (qg_name nd) (qss_cons (qs_set nd (qe_call h_law_modulus (spOkS _) (hr.mono (by omega)) (takes_of rfl rfl rfl rfl) (qa_cons (qe_var 1) qa_nil)))
      (qss_cons (qs_set nd (qe_if (qt_cmp o_gt (qe_var 4) qe_int) (qe_call h_law_some_formula (spOkS _) (hr.mono (by omega)) (takes_of rfl rfl rfl rfl) (qa_cons (qe_var 1) (qa_cons (qe_var 5) (qa_cons qe_int qa_nil)))) (qe_call h_law_limit_formula (spOkS _) (hr.mono (by omega)) (takes_of rfl rfl rfl rfl) (qa_cons (qe_var 1) (qa_cons (qe_var 5) qa_nil)))))
      (qss_cons (qs_set nd (qe_call h_law_text (spOkP _) (hr.mono (by omega)) (takes_of rfl rfl rfl rfl) (qa_cons (qe_var 6) qa_nil)))
      (qss_cons (qs_if (qt_w (qw_or (qt_cmp (o_ne hr) (qe_call h_format_formula.1 (spOkP _) (hr.mono (by omega)) (takes_of rfl rfl rfl rfl) (qa_cons (qe_var 6) qa_nil)) (qe_var 7)) (qt_or1 (qt_cmp (o_ne hr) (qe_callK (ks := ["formula"]) (ix := [0]) h_format_formula.2 (spOkP _) (hr.mono (by omega)) (takes_of rfl rfl rfl rfl) (qk_cons (qe_var 6) qk_nil)) (qe_var 7))))) (qss_one (qs_ret qe_bl)) qss_nil)
      (qss_cons (qs_if (qt_w (qw_or (qt_cmp (o_ne hr) (qe_callB (o_repr hr rfl) T.b_repr (qa_cons (qe_call h_parse_formula.1 (spOkP _) (hr.mono (by omega)) (takes_of rfl rfl rfl rfl) (qa_cons (qe_var 7) (qa_cons (qe_var 5) qa_nil))) qa_nil)) (qe_callB (o_repr hr rfl) T.b_repr (qa_cons (qe_var 6) qa_nil))) (qt_or1 (qt_cmp (o_ne hr) (qe_callK (ks := ["modulus", "text"]) (ix := [1, 0]) h_parse_formula.2 (spOkP _) (hr.mono (by omega)) (takes_of rfl rfl rfl rfl) (qk_cons (qe_var 5) (qk_cons (qe_var 7) qk_nil))) (qe_var 6))))) (qss_one (qs_ret qe_bl)) qss_nil)
      (qss_one (qs_expr (qe_bm PySem.F.plainAttrs_list PySem.F.slot_list_append PySem.F.type_list_append o_append ty_lst (qe_var 3) (qa_cons (qe_tup (qa_cons (qe_callB (o_repr hr rfl) T.b_repr (qa_cons (qe_var 6) qa_nil)) (qa_cons (qe_var 7) qa_nil))) qa_nil))))))))))
      (qss_cons (qs_for (passes_of rfl) rfl (qi_any (qe_var 3)) (qg_name nd) (qss_one (qs_for (passes_of rfl) rfl (qi_any (qe_var 3)) (qg_name nd) (qss_one (qs_if (qt_cmp (o_ne hr) (qe_cmp (o_eq hr) (qe_ix o_ix (qe_var 8) qe_int) (qe_ix o_ix (qe_var 9) qe_int)) (qe_cmp (o_eq hr) (qe_ix o_ix (qe_var 8) qe_int) (qe_ix o_ix (qe_var 9) qe_int))) (qss_one (qs_ret qe_bl)) qss_nil)))))
      (qss_one (qs_ret qe_bl))))))))
/-- all defs, from the text's facts -/
theorem all_ok {f : Addr} {fd : FuncData} (F : Fun K "law" "law" (top 25) f fd) (T : Txt w K mg) : AtTop P w K mg base f fd "script" (spS K mg (fnS 1 10 g_law)) := by
  have h_format_formula : HasFn P w K mg base "format_formula" (0 + 20) (spP K mg (G_format_formula 20)) ∧ HasFnK P w K mg base "format_formula" (0 + 20) (spP K mg (G_format_formula 20)) ["formula"] [0] := ok_format_formula T  20
  have h_read_residue : HasFn P w K mg base "read_residue" 1 (spP K mg G_read_residue) := ok_read_residue T 
  have h_FormulaReader_init : HasInit P w K mg base "FormulaReader" 1 (spS K mg G_FormulaReader_init) := ok_FormulaReader_init T 
  have h_FormulaReader_read_word : HasMeth P w K mg base "FormulaReader" "read_word" 1 (spS K mg G_FormulaReader_read_word) := ok_FormulaReader_read_word T 
  have h_FormulaReader_read_start : HasMeth P w K mg base "FormulaReader" "read_start" 2 (spS K mg G_FormulaReader_read_start) := ok_FormulaReader_read_start T h_read_residue h_FormulaReader_read_word
  have h_FormulaReader_finish : HasMeth P w K mg base "FormulaReader" "finish" 1 (spS K mg G_FormulaReader_finish) := ok_FormulaReader_finish T 
  have h_FormulaReader_is_too_large : HasMeth P w K mg base "FormulaReader" "is_too_large" 1 (spS K mg G_FormulaReader_is_too_large) := ok_FormulaReader_is_too_large T 
  have h_parse_formula : HasFn P w K mg base "parse_formula" 3 (spP K mg G_parse_formula) ∧ HasFnK P w K mg base "parse_formula" 3 (spP K mg G_parse_formula) ["modulus", "text"] [1, 0] := ok_parse_formula T h_FormulaReader_init h_FormulaReader_read_start h_FormulaReader_finish h_FormulaReader_is_too_large
  have h_law_pen : HasFn P w K mg base "_law_pen" 1 (spS K mg G_law_pen) := ok_law_pen T 
  have h_law_fresh : HasFn P w K mg base "_law_fresh" 1 (spS K mg G_law_fresh) := ok_law_fresh T 
  have h_law_draw : HasFn P w K mg base "_law_draw" 2 (spS K mg G_law_draw) := ok_law_draw T h_law_fresh
  have h_law_modulus : HasFn P w K mg base "_law_modulus" 3 (spS K mg G_law_modulus) := ok_law_modulus T h_law_draw
  have h_law_leaf : HasFn P w K mg base "_law_leaf" 3 (spS K mg G_law_leaf) := ok_law_leaf T h_law_draw
  have h_law_formula : HasFn P w K mg base "_law_formula" (3 + 20) (spS K mg (G_law_formula 20)) := ok_law_formula T h_law_draw h_law_leaf 20
  have h_law_some_formula : HasFn P w K mg base "_law_some_formula" 24 (spS K mg G_law_some_formula) := ok_law_some_formula T h_law_draw h_law_formula
  have h_law_text : HasFn P w K mg base "_law_text" (0 + 20) (spP K mg (G_law_text 20)) := ok_law_text T  20
  have h_law_limit_formula : HasFn P w K mg base "_law_limit_formula" 3 (spS K mg G_law_limit_formula) := ok_law_limit_formula T h_law_draw
  exact ok_law F T h_format_formula h_parse_formula h_law_pen h_law_modulus h_law_some_formula h_law_text h_law_limit_formula
end
end TheText

namespace MK
open PySem L2
@[simp] theorem fIx_str (z : Tx) (i : Int) (S : Sto) : fIx (.val (.str z)) (.val (.int i)) S = if z.length ≤ sizeLine then (match atI z i with
      | some c => .ok (.val (.str [c])) S
      | none => .stuck) else .stuck := rfl
@[simp] theorem fIx_tup (z : List Dv) (i : Int) (S : Sto) : fIx (.val (.tup z)) (.val (.int i)) S = (match atI (z.map .val) i with
      | some c => .ok c S
      | none => .stuck) := rfl
@[simp] theorem fIx_lst (z : List Dv) (i : Int) (S : Sto) : fIx (.val (.lst z)) (.val (.int i)) S = (match atI (z.map .val) i with
      | some c => .ok c S
      | none => .stuck) := rfl
@[simp] theorem fIx_loc (n : Nat) (i : Int) (S : Sto) : fIx (.loc n) (.val (.int i)) S = (match seqOf S (.loc n) with
      | some (_, ms) => (match atI ms i with
        | some m => .ok m S
        | none => .stuck)
      | none => .stuck) := rfl
theorem seqOf_loc {S : Sto} {n : Nat} {ms : List Mv} (h : S[n]? = some (.lst ms)) : seqOf S (.loc n) = some (.l, ms) := by
  unfold seqOf; simp [h]
@[simp] theorem fLen_str (z : Tx) (S : Sto) : fLen [.val (.str z)] S = if z.length ≤ sizeLine then .ok (.val (.int z.length)) S else .stuck := rfl
@[simp] theorem fLen_tup (z : List Dv) (S : Sto) : fLen [.val (.tup z)] S = .ok (.val (.int (z.map Mv.val).length)) S := rfl
@[simp] theorem fLen_lst (z : List Dv) (S : Sto) : fLen [.val (.lst z)] S = .ok (.val (.int (z.map Mv.val).length)) S := rfl
@[simp] theorem fLen_loc (n : Nat) (S : Sto) : fLen [.loc n] S = (match seqOf S (.loc n) with
    | some (_, ms) => .ok (.val (.int ms.length)) S
    | none => .stuck) := rfl
theorem atI_n {α : Type} (xs : List α) (i : Nat) : atI xs (i : Int) = xs[i]? := by
  unfold atI ixN
  rw [if_pos (by omega)]
  split
  · simp
  · rename_i h
    simp at h ⊢
    exact h
theorem fSetL_nat {S : Sto} {k : Nat} {ms : List Mv} (h : S[k]? = some (.lst ms)) (i : Nat) (hi : i < ms.length) (m : Mv) : fSetL (.loc k) (.val (.int i)) m S = .ok () (S.set k (.lst (ms.set i m))) := by
  unfold fSetL
  simp only [h]
  unfold ixN
  rw [if_pos (by omega), if_pos (by omega)]
  simp
end MK
namespace TheText
open PySem L2 MK
def PenOb (o : Ob) : Prop := ∃ (zs : List Int) (at_ : Nat) (acc : Int), o = .lst [.val (.lst (zs.map .int)), .val (.int at_), .val (.int acc)]
def PenAt (S : Sto) (k : Nat) : Prop := ∃ o, S[k]? = some o ∧ PenOb o
theorem lset {S : Sto} {k : Nat} {o o' : Ob} (h : S[k]? = some o) : (S.set k o')[k]? = some o' := by
  have : k < S.length := by
    rcases Nat.lt_or_ge k S.length with q | q
    · exact q
    · rw [List.getElem?_eq_none q] at h; cases h
  simp [this]
theorem forS_inv {t : XG} {g : XS} (I : List (Option Mv) → Sto → Prop) : ∀ (ms : List Mv), (∀ m ∈ ms, ∀ ρ S, I ρ S → ∃ ρ' S', ((t m ρ S).only.seq fun ρ1 S1 => g ρ1 S1) = .nx ρ' S' ∧ I ρ' S') → ∀ ρ S, I ρ S → ∃ ρ' S', forS always t g ms ρ S = .nx ρ' S' ∧ I ρ' S'
  | [], _, ρ, S, h => ⟨ρ, S, forS_nil .., h⟩
  | m :: ms, hs, ρ, S, h => by
    obtain ⟨ρ1, S1, e, h1⟩ := hs m (by simp) ρ S h
    obtain ⟨ρ2, S2, e2, h2⟩ := forS_inv I ms (fun m hm => hs m (by simp [hm])) ρ1 S1 h1
    refine ⟨ρ2, S2, ?_, h2⟩
    rw [forS_cons]
    have : ∀ (x : RS) (f g : List (Option Mv) → Sto → RS), (x.seq f).turn g = (x.seq fun a b => f a b).turn g := fun _ _ _ => rfl
    have q : ((t m ρ S).only.seq fun ρ1 S1 => (g ρ1 S1).turn fun ρ2 S2 => forS always t g ms ρ2 S2) = ((t m ρ S).only.seq fun ρ1 S1 => g ρ1 S1).turn fun ρ2 S2 => forS always t g ms ρ2 S2 := by
      revert e
      cases (t m ρ S) <;> simp [RS.only, RS.seq, RS.turn]
    rw [q, e]
    exact e2

theorem toPys_ints : ∀ zs : List Int, toPys (zs.map .int) = some (zs.map .int)
  | [] => rfl
  | z :: zs => by simp [toPys, toPy, toPys_ints zs]
theorem lay_ints : ∀ zs : List Int, PyData.canLayAll0 (zs.map .int) = true
  | [] => rfl
  | z :: zs => by simp [PyData.canLayAll0, PyData.canLay0, lay_ints zs]
theorem depth_ints : ∀ zs : List Int, PyData.depthAll (zs.map .int) = 0
  | [] => rfl
  | z :: zs => by simp [PyData.depthAll, PyData.depth, depth_ints zs]
theorem ne_nil (zs : List Int) (S : Sto) : fNe (.val (.lst (zs.map .int))) (.val (.lst [])) S = .ok (.val (.bl (!zs.isEmpty))) S := by
  have : eqD (.lst (zs.map .int)) (.lst []) = some zs.isEmpty := by
    unfold eqD
    simp only [toPy, toPys_ints, toPys, Option.map_some, Option.bind_some]
    rw [if_pos]
    · cases zs <;> rfl
    · simp [SeqAt.shaped, PyData.canLay0, PyData.canLayAll0, lay_ints, PyData.depth, PyData.depthAll, depth_ints]
  show fEqq true _ _ _ = _
  show fEqq true _ _ _ = _
  unfold fEqq rfy
  simp [this]


theorem seq_nx {a b : XS} {ρ S ρ1 S1} (h1 : a ρ S = .nx ρ1 S1) : sSeq a b ρ S = b ρ1 S1 := by rw [sSeq_eq, h1]; rfl
theorem seq_ret {a b : XS} {ρ S m S1} (h1 : a ρ S = .ret m S1) : sSeq a b ρ S = .ret m S1 := by rw [sSeq_eq, h1]; rfl
theorem fMod_ok {i j : Int} {S : Sto} (h : 0 < j) : fMod (.val (.int i)) (.val (.int j)) S = .ok (.val (.int (i % j))) S := by simp [h]
theorem fDiv_ok {i j : Int} {S : Sto} (h : 0 < j) (h2 : j < 1073741824) : fDiv (.val (.int i)) (.val (.int j)) S = .ok (.val (.int (i / j))) S := by simp [h, h2]
theorem fMul_l {i j : Int} {S : Sto} (h : -1000000000000000000 < i) (h2 : i < 1000000000000000000) : fMul (.val (.int i)) (.val (.int j)) S = .ok (.val (.int (i * j))) S := by
  have : (-(2 ^ 64) < i ∧ i < 2 ^ 64) := by omega
  show (if decide _ = true then _ else _) = _
  rw [if_pos (decide_eq_true (Or.inl this))]
theorem fMul_r {i j : Int} {S : Sto} (h : -10000000000000000000 < j) (h2 : j < 10000000000000000000) : fMul (.val (.int i)) (.val (.int j)) S = .ok (.val (.int (i * j))) S := by
  have : (-(2 ^ 64) < j ∧ j < 2 ^ 64) := by omega
  show (if decide _ = true then _ else _) = _
  rw [if_pos (decide_eq_true (Or.inr this))]
theorem pow18 {S : Sto} : fPow (.val (.int 10)) (.val (.int 18)) S = .ok (.val (.int 1000000000000000000)) S := by
  refine (fInt_eq _ _ 10 18 S).trans ((if_pos (by decide)).trans ?_); rfl
abbrev loopB : XS := (sSeq (sSet 4 ((eBin fMod ((eBin fAdd ((eBin fAdd ((eBin fMul (eVar 4) (eVar 4))) ((eBin fMul ((eBin fMul (eC (.int 69621)) ((eBin fAdd (eVar 6) (eC (.int 1)))))) ((eBin fAdd (eVar 1) (eC (.int 1)))))))) (eVar 2))) (eVar 3))))
    (sSet 5 ((eBin fAdd ((eBin fMul (eVar 5) (eVar 3))) (eVar 4)))))
theorem mkLst_nil {S : Sto} : mkLst [] S = .ok (.val (.lst [])) S := rfl
theorem fresh_ok {S : Sto} {k : Nat} (hp : PenAt S k) : ∃ d o, PenOb o ∧ G_law_fresh [.loc k] S = .ok (.val (.int d)) (S.set k o) := by
  obtain ⟨_, h, zs, at_, acc, rfl⟩ := hp
  obtain ⟨o', eo⟩ : ∃ o', o' = Ob.lst [.val (.lst (zs.map .int)), .val (.int ((at_ + 1 : Nat) : Int)), .val (.int acc)] := ⟨_, rfl⟩
  obtain ⟨S', eS⟩ : ∃ S', S' = S.set k o' := ⟨_, rfl⟩
  have ho : seqOf S' (.loc k) = some (.l, [.val (.lst (zs.map .int)), .val (.int ((at_ + 1 : Nat) : Int)), .val (.int acc)]) := by subst eS; exact seqOf_loc (by rw [lset h, eo])
  have e1 : fSetL (.loc k) (.val (.int 1)) (.val (.int ((at_ : Int) + 1))) S = .ok () S' := by subst eS eo; exact fSetL_nat h 1 (by simp) _
  have p0 : ∀ {x y z : Mv}, atI [x, y, z] 0 = some x := rfl
  have p1 : ∀ {x y z : Mv}, atI [x, y, z] 1 = some y := rfl
  suffices q : ∃ d, G_law_fresh [.loc k] S = .ok (.val (.int d)) S' by
    obtain ⟨d, q⟩ := q
    exact ⟨d, o', ⟨zs, at_ + 1, acc, eo⟩, by rw [← eS]; exact q⟩
  have ec : ∃ cell : Int, (if (!zs.isEmpty) = true then (fMod (.val (.int at_)) (.val (.int zs.length)) S').bind fun i S1 => fIx (.val (.lst (zs.map .int))) i S1 else .ok (.val (.int 0)) S') = .ok (.val (.int cell)) S' := by
    cases zs with
    | nil => exact ⟨0, rfl⟩
    | cons z zs =>
      have : at_ % (z :: zs).length < (z :: zs).length := Nat.mod_lt _ (by simp)
      refine ⟨(z :: zs)[at_ % (z :: zs).length], ?_⟩
      rw [if_pos (show (!(z :: zs).isEmpty) = true from rfl), fMod_ok (Int.natCast_pos.mpr (by simp)), Rz.bind_ok, fIx_lst]
      rw [show ((at_ : Int) % ((z :: zs).length : Int)) = ((at_ % (z :: zs).length : Nat) : Int) from (Int.natCast_emod _ _).symm, atI_n]
      simp only [List.getElem?_map, List.getElem?_eq_getElem this, Option.map_some]
  obtain ⟨cell, ec⟩ := ec
  simp only [G_law_fresh, fnS, g_law_fresh, List.length_cons, List.length_nil, if_true, List.map_cons, List.map_nil, List.replicate, List.cons_append, List.nil_append]
  rw [seq_nx (ρ1 := [some (.loc k), some (.val (.int at_)), none, none, none, none, none]) (S1 := S) ?s1]
  case s1 => simp [seqOf_loc h, p1]
  rw [seq_nx (ρ1 := [some (.loc k), some (.val (.int at_)), none, none, none, none, none]) (S1 := S') ?s2]
  case s2 => simp [e1]
  rw [seq_nx (ρ1 := [some (.loc k), some (.val (.int at_)), some (.val (.int 0)), none, none, none, none]) (S1 := S') ?s3]
  case s3 => simp
  rw [seq_nx (ρ1 := [some (.loc k), some (.val (.int at_)), some (.val (.int cell)), none, none, none, none]) (S1 := S') ?s4]
  case s4 =>
    simp only [sIf_eq, xB_eq, eBin_eq, eVar_eq, eC_eq, eMk_eq, aNil_eq, aCons_eq, List.getElem?_cons_zero, List.getElem?_cons_succ, Rz.bind_ok, fIx_loc, ho, p0, mkLst_nil, ne_nil, Rz.thn_ok, sSet_eq, sNil_eq, fLen_lst, List.length_map]
    revert ec
    cases (!zs.isEmpty) with
    | false => intro ec; cases ec; rfl
    | true =>
      intro ec
      rw [if_pos rfl] at ec
      simp only [ec, Rz.thn_ok, List.set_cons_succ, List.set_cons_zero]
  by_cases hr : (at_ : Int) < (zs.length : Int) ∧ 1000000000000000000 ≤ cell
  · rw [seq_ret (m := .val (.int (cell - 1000000000000000000))) (S1 := S') ?s5]
    · exact ⟨_, rfl⟩
    case s5 => simp [ho, p0, pow18, hr.1, hr.2]
  rw [seq_nx (ρ1 := [some (.loc k), some (.val (.int at_)), some (.val (.int cell)), none, none, none, none]) (S1 := S') ?s6]
  case s6 =>
    by_cases h1 : (at_ : Int) < (zs.length : Int)
    · have h2 : ¬ (1000000000000000000 ≤ cell) := fun q => hr ⟨h1, q⟩
      simp [ho, p0, pow18, h1, h2]
    · simp [ho, p0, h1]
  clear hr ec
  rw [seq_nx (ρ1 := [some (.loc k), some (.val (.int at_)), some (.val (.int cell)), some (.val (.int 2305843009213693951)), none, none, none]) (S1 := S') ?s7]
  case s7 => simp
  obtain ⟨st, es⟩ : ∃ st, st = (cell * 48271 + 40692 * at_ + 31) % 2305843009213693951 := ⟨_, rfl⟩
  have g0 : 0 ≤ st := by rw [es]; exact Int.emod_nonneg _ (by decide)
  have g1 : st < 2305843009213693951 := by rw [es]; exact Int.emod_lt_of_pos _ (by decide)
  rw [seq_nx (ρ1 := [some (.loc k), some (.val (.int at_)), some (.val (.int cell)), some (.val (.int 2305843009213693951)), some (.val (.int st)), none, none]) (S1 := S') ?s8]
  case s8 =>
    rw [es]
    simp only [sSet_eq, eBin_eq, eVar_eq, eC_eq, List.getElem?_cons_zero, List.getElem?_cons_succ, Rz.bind_ok, fMul_r (j := 48271) (by decide) (by decide), fMul_l (i := 40692) (by decide) (by decide), fAdd_int, fMod_ok (j := 2305843009213693951) (by decide), Rz.thn_ok, List.set_cons_succ, List.set_cons_zero]
  rw [seq_nx (ρ1 := [some (.loc k), some (.val (.int at_)), some (.val (.int cell)), some (.val (.int 2305843009213693951)), some (.val (.int st)), some (.val (.int st)), none]) (S1 := S') ?s9]
  case s9 => simp
  clear es
  suffices q : ∀ fo, ∃ st1 fo1 t, (sFor (iRng1 (aCons (eC (.int 6)) (aNil))) (tgName 6) loopB) [some (.loc k), some (.val (.int at_)), some (.val (.int cell)), some (.val (.int 2305843009213693951)), some (.val (.int st)), some (.val (.int fo)), none] S' = .nx [some (.loc k), some (.val (.int at_)), some (.val (.int cell)), some (.val (.int 2305843009213693951)), some (.val (.int st1)), some (.val (.int fo1)), t] S' by
    obtain ⟨st', fo, t, q⟩ := q st
    rw [seq_nx q]
    exact ⟨fo, rfl⟩
  intro fo
  rw [sFor_eq]
  simp only [iRng1_eq, aCons_eq, aNil_eq, eC_eq, Rz.bind_ok]
  rw [if_pos (by decide)]
  simp only [Rz.thn_ok]
  obtain ⟨ρ', S'', e, st', fo', t', rfl, rfl, _⟩ := forS_inv (t := tgName 6) (g := loopB)
      (fun ρ T => ∃ (st fo : Int) (t : Option Mv), ρ = [some (.loc k), some (.val (.int at_)), some (.val (.int cell)), some (.val (.int 2305843009213693951)), some (.val (.int st)), some (.val (.int fo)), t] ∧ T = S' ∧ 0 ≤ st ∧ st < 2305843009213693951) (rangeL 0 6) (by
        intro m hm ρ T ⟨st, fo, t, e1, e2, h0, h1⟩
        subst e1 e2
        unfold rangeL at hm
        obtain ⟨i, hi, rfl⟩ := List.mem_map.mp hm
        have hi := List.mem_range.mp hi
        generalize hj : (0 + (i : Int)) = j at *
        have hj0 : 0 ≤ j ∧ j < 6 := by omega
        refine ⟨_, _, ?_, (st * st + 69621 * (j + 1) * (at_ + 1) + cell) % 2305843009213693951, fo * 2305843009213693951 + (st * st + 69621 * (j + 1) * (at_ + 1) + cell) % 2305843009213693951, some (.val (.int j)), rfl, rfl, Int.emod_nonneg _ (by decide), Int.emod_lt_of_pos _ (by decide)⟩
        simp only [tgName_eq, RS.only_nx, RS.seq_nx, List.set_cons_succ, List.set_cons_zero, loopB]
        rw [seq_nx (ρ1 := [some (.loc k), some (.val (.int at_)), some (.val (.int cell)), some (.val (.int 2305843009213693951)), some (.val (.int ((st * st + 69621 * (j + 1) * (at_ + 1) + cell) % 2305843009213693951))), some (.val (.int fo)), some (.val (.int j))]) (S1 := T) ?s1]
        case s1 =>
          simp only [sSet_eq, eBin_eq, eVar_eq, eC_eq, List.getElem?_cons_zero, List.getElem?_cons_succ, Rz.bind_ok, fAdd_int]
          rw [fMul_r (by omega) (by omega), Rz.bind_ok, fMul_l (i := 69621) (by decide) (by decide), Rz.bind_ok, fMul_l (by omega) (by omega)]
          simp only [Rz.bind_ok, fAdd_int, fMod_ok (j := 2305843009213693951) (by decide), Rz.thn_ok, List.set_cons_succ, List.set_cons_zero]
        simp only [sSet_eq, eBin_eq, eVar_eq, eC_eq, List.getElem?_cons_zero, List.getElem?_cons_succ, Rz.bind_ok, fAdd_int, fMul_r (j := 2305843009213693951) (by decide) (by decide), Rz.thn_ok, List.set_cons_succ, List.set_cons_zero]) _ _ ⟨st, fo, none, rfl, rfl, g0, g1⟩
  exact ⟨st', fo', t', e⟩
theorem draw_ok {S : Sto} {k : Nat} (hp : PenAt S k) {m : Int} (h0 : 0 < m) (h1 : m < 1073741824) : ∃ d o, PenOb o ∧ 0 ≤ d ∧ d < m ∧ G_law_draw [.loc k, .val (.int m)] S = .ok (.val (.int d)) (S.set k o) := by
  have p2 : ∀ {x y z : Mv}, atI [x, y, z] 2 = some z := rfl
  obtain ⟨S1, o1, hS1, hp1, e1⟩ : ∃ S1 o1, S1 = S.set k o1 ∧ PenOb o1 ∧ ((sIf ((xB ((eBin fLt ((eBin fIx (eVar 0) (eC (.int 2)))) (eVar 1))))) ((sAsg ((eMk G_law_fresh (aCons (eVar 0) (aNil)))) (tgSub fSetL (eVar 0) (eC (.int 2))))) (sNil)) [some (.loc k), some (.val (.int m)), none] S = .nx [some (.loc k), some (.val (.int m)), none] S1) := by
    obtain ⟨_, h, zs, at_, acc, rfl⟩ := id hp
    by_cases q : acc < m
    · obtain ⟨d, o, ho, e⟩ := fresh_ok hp
      obtain ⟨zs, at_, acc, rfl⟩ := ho
      refine ⟨_, _, rfl, ⟨zs, at_, d, rfl⟩, ?_⟩
      have e2 := fSetL_nat (lset (o' := .lst [.val (.lst (zs.map .int)), .val (.int at_), .val (.int acc)]) h) 2 (by simp) (.val (.int d))
      simp [seqOf_loc h, p2, q, e]
      rw [show (2 : Int) = ((2 : Nat) : Int) from rfl, e2]
      simp
    · refine ⟨S, _, ?_, ⟨zs, at_, acc, rfl⟩, ?_⟩
      · apply List.ext_getElem?
        intro i
        by_cases hi : k = i
        · subst hi; rw [lset h, h]
        · rw [List.getElem?_set_ne hi]
      · simp [seqOf_loc h, p2, q]
  have h : S1[k]? = some o1 := by
    obtain ⟨_, h, _⟩ := hp
    rw [hS1]; exact lset h
  obtain ⟨zs, at_, acc, rfl⟩ := hp1
  refine ⟨acc % m, _, ⟨zs, at_, acc / m, rfl⟩, Int.emod_nonneg _ (by omega), Int.emod_lt_of_pos _ h0, ?_⟩
  simp only [G_law_draw, fnS, g_law_draw, List.length_cons, List.length_nil, if_true, List.map_cons, List.map_nil, List.replicate, List.cons_append, List.nil_append]
  rw [seq_nx e1]
  have e2 := fSetL_nat h 2 (by simp) (.val (.int (acc / m)))
  have e3 : fSetL (.loc k) (.val (.int 2)) (.val (.int (acc / m))) S1 = .ok () (S.set k (.lst [.val (.lst (zs.map .int)), .val (.int at_), .val (.int (acc / m))])) := by
    rw [show (2 : Int) = ((2 : Nat) : Int) from rfl, e2, hS1]; simp
  simp only [sSeq_eq, sSet_eq, sAsg_eq, sRet_eq, tgSub_eq, eBin_eq, eVar_eq, eC_eq, List.getElem?_cons_zero, List.getElem?_cons_succ, Rz.bind_ok, fIx_loc, seqOf_loc h, p2, fMod_ok h0, fDiv_ok h0 h1, Rz.thn_ok, e3, RS.only_nx, RS.seq_nx, List.set_cons_succ, List.set_cons_zero, RS.fin_ret]
end TheText

namespace MK
open PySem L2
@[simp] theorem fEqq_int (neg : Bool) (i j : Int) (S : Sto) : fEqq neg (.val (.int i)) (.val (.int j)) S = .ok (.val (.bl ((i == j) != neg))) S := by
  simp [fEqq, rfy, eqD, toPy, SeqAt.shaped, PyData.canLay0, PyData.depth, PyData.eqv]
def okT (x : Tx) : Bool := x.all (· < 1114112)
theorem sT_beq' (x y : Tx) : (sT x == sT y) = (x == y) := by rw [sT_beq, BEq.comm]
theorem okT_strOk {x : Tx} (h : okT x = true) : PyData.strOk (sT x) = true := by
  unfold okT at h
  unfold PyData.strOk sT
  simpa using h
theorem shaped_str {x : Tx} (h : okT x = true) : SeqAt.shaped (.str (sT x)) = true := by
  simp only [SeqAt.shaped, PyData.canLay0, okT_strOk h, PyData.depth]
  rfl
theorem fEqq_str (neg : Bool) {x y : Tx} (S : Sto) (hx : okT x = true) (hy : okT y = true) : fEqq neg (.val (.str x)) (.val (.str y)) S = .ok (.val (.bl ((x == y) != neg))) S := by
  have : eqD (.str x) (.str y) = some (x == y) := by
    unfold eqD
    simp only [toPy, Option.bind_some, shaped_str hx, shaped_str hy, Bool.and_self, if_true, PyData.eqv, sT_beq']
  show (match eqD (.str x) (.str y) with | some b => _ | none => _) = _
  rw [this]
end MK
namespace TheText
open PySem L2 MK
/-- S' is S but at k, where a pen stands -/
structure Pn (k : Nat) (S S' : Sto) : Prop where
  pen : PenAt S' k
  len : S'.length = S.length
  oth : ∀ i, i ≠ k → S'[i]? = S[i]?
theorem Pn.trans {k : Nat} {S S1 S2 : Sto} (a : Pn k S S1) (b : Pn k S1 S2) : Pn k S S2 := ⟨b.pen, b.len.trans a.len, fun i h => (b.oth i h).trans (a.oth i h)⟩
theorem draw {S : Sto} {k : Nat} (hp : PenAt S k) (m : Int) (h0 : 0 < m) (h1 : m < 1073741824) : ∃ d S', 0 ≤ d ∧ d < m ∧ Pn k S S' ∧ G_law_draw [.loc k, .val (.int m)] S = .ok (.val (.int d)) S' := by
  obtain ⟨d, o, ho, a, b, e⟩ := draw_ok hp h0 h1
  obtain ⟨o1, h, _⟩ := hp
  exact ⟨d, _, a, b, ⟨⟨o, lset h, ho⟩, by simp, fun i hi => List.getElem?_set_ne (Ne.symm hi)⟩, e⟩
theorem i10 {d : Int} (h0 : 0 ≤ d) (h1 : d < 10) : d = 0 ∨ d = 1 ∨ d = 2 ∨ d = 3 ∨ d = 4 ∨ d = 5 ∨ d = 6 ∨ d = 7 ∨ d = 8 ∨ d = 9 := by omega
theorem modulus_ok {S : Sto} {k : Nat} (hp : PenAt S k) : ∃ q S', 2 ≤ q ∧ q ≤ 1000 ∧ Pn k S S' ∧ G_law_modulus [.loc k] S = .ok (.val (.int q)) S' := by
  obtain ⟨a, S1, a0, a1, p1, e1⟩ := draw hp 999 (by decide) (by decide)
  obtain ⟨b, S2, b0, b1, p2, e2⟩ := draw p1.pen 10 (by decide) (by decide)
  suffices q : ∃ q, 2 ≤ q ∧ q ≤ 1000 ∧ G_law_modulus [.loc k] S = .ok (.val (.int q)) S2 by
    obtain ⟨q, h0, h1, h2⟩ := q
    exact ⟨q, S2, h0, h1, p1.trans p2, h2⟩
  have hq : ∃ q, 2 ≤ q ∧ q ≤ 1000 ∧ atI [Mv.val (.int 2), .val (.int 3), .val (.int 4), .val (.int 5), .val (.int 6), .val (.int 7), .val (.int 12), .val (.int 97), .val (.int 1000), .val (.int (2 + a))] b = some (.val (.int q)) := by
    rcases i10 b0 b1 with rfl | rfl | rfl | rfl | rfl | rfl | rfl | rfl | rfl | rfl
    all_goals exact ⟨_, by omega, by omega, rfl⟩
  obtain ⟨q, h0, h1, hq⟩ := hq
  refine ⟨q, h0, h1, ?_⟩
  simp [G_law_modulus, fnS, g_law_modulus, e1, e2, mkLst, hq, line_is]
def vars : List Tx := [[120], [120, 97], [120, 98], [97, 98, 99, 100, 101, 102], [97, 98, 99, 100, 101, 103], [112, 108, 117, 115], [111, 114], [121], [110, 111, 116], [97], [98], [99], [100], [101], [102], [103], [104], [105], [106], [107], [108], [109], [110], [111], [112], [113], [114], [115], [116], [117], [118], [119], [122]]
def tNot : Tx := [110, 111, 116]
def ops : List Tx := [[112, 108, 117, 115], [109, 105, 110, 117, 115], [116, 105, 109, 101, 115], [97, 110, 100], [111, 114]]
inductive Fm where
  | res (i : Int) | var (x : Tx) | neg (p : Fm) | op (w : Tx) (p q : Fm)
def toD : Fm → Dv
  | .res i => .int i
  | .var x => .str x
  | .neg p => .tup [.str tNot, toD p]
  | .op w p q => .tup [.str w, toD p, toD q]
def lvs : Fm → Nat
  | .res _ => 1
  | .var _ => 1
  | .neg p => lvs p
  | .op _ p q => lvs p + lvs q
def tps : Fm → Nat
  | .res _ => 0
  | .var _ => 0
  | .neg p => tps p + 1
  | .op _ p q => tps p + tps q + 1
def dpt : Fm → Nat
  | .res _ => 0
  | .var _ => 0
  | .neg p => dpt p + 1
  | .op _ p q => max (dpt p) (dpt q) + 1
def Vd (q : Int) : Fm → Prop
  | .res i => 0 ≤ i ∧ i < q
  | .var x => x ∈ vars
  | .neg p => Vd q p
  | .op w p r => w ∈ ops ∧ Vd q p ∧ Vd q r
theorem lvs_pos : ∀ p : Fm, 1 ≤ lvs p
  | .res _ => Nat.le_refl _
  | .var _ => Nat.le_refl _
  | .neg p => lvs_pos p
  | .op _ p q => by have := lvs_pos p; simp only [lvs]; omega
theorem dpt_tps : ∀ p : Fm, dpt p ≤ tps p
  | .res _ => Nat.le_refl _
  | .var _ => Nat.le_refl _
  | .neg p => by have := dpt_tps p; simp only [dpt, tps]; omega
  | .op _ p q => by have := dpt_tps p; have := dpt_tps q; simp only [dpt, tps]; omega
theorem leaf_ok {S : Sto} {k : Nat} (hp : PenAt S k) {q : Int} (h0 : 2 ≤ q) (h1 : q ≤ 1000) : ∃ p S', Vd q p ∧ lvs p = 1 ∧ tps p = 0 ∧ Pn k S S' ∧ G_law_leaf [.loc k, .val (.int q)] S = .ok (.val (toD p)) S' := by
  obtain ⟨b, S1, b0, b1, p1, e1⟩ := draw hp 9 (by decide) (by decide)
  obtain ⟨a, S2, a0, a1, p2, e2⟩ := draw p1.pen q (by omega) (by omega)
  by_cases hb : b < 6
  · have hq : ∃ x, x ∈ vars ∧ atI [Mv.val (.str [120]), .val (.str [120, 97]), .val (.str [120, 98]), .val (.str [97, 98, 99, 100, 101, 102]), .val (.str [97, 98, 99, 100, 101, 103]), .val (.str [120])] b = some (.val (.str x)) := by
      rcases i10 b0 (by omega) with rfl | rfl | rfl | rfl | rfl | rfl | rfl | rfl | rfl | rfl
      all_goals first | exact ⟨_, by decide, rfl⟩ | omega
    obtain ⟨x, hx, hq⟩ := hq
    refine ⟨.var x, S1, hx, rfl, rfl, p1, ?_⟩
    simp [G_law_leaf, fnS, g_law_leaf, e1, hb, mkLst, line_is, hq, toD]
  · have hq : ∃ i, (0 ≤ i ∧ i < q) ∧ atI [Mv.val (.int 0), .val (.int 1), .val (.int a)] (b - 6) = some (.val (.int i)) := by
      rcases i10 b0 (by omega) with rfl | rfl | rfl | rfl | rfl | rfl | rfl | rfl | rfl | rfl
      all_goals first | exact ⟨_, by omega, rfl⟩ | omega
    obtain ⟨x, hx, hq⟩ := hq
    refine ⟨.res x, S2, hx, rfl, rfl, p1.trans p2, ?_⟩
    simp [G_law_leaf, fnS, g_law_leaf, e1, e2, hb, mkLst, line_is, hq, toD]
end TheText

namespace TheText
open PySem L2 MK
/-- S' is S but at k, where a pen stands, and at j, where the count of nots stands -/
structure Pj (k j : Nat) (c : Nat) (S S' : Sto) : Prop where
  pen : PenAt S' k
  cnt : S'[j]? = some (.lst [.val (.int c)])
  len : S'.length = S.length
  oth : ∀ i, i ≠ k → i ≠ j → S'[i]? = S[i]?
theorem Pj.of {k j c : Nat} {S S' : Sto} (h : Pn k S S') (n : k ≠ j) (hc : S[j]? = some (.lst [.val (.int c)])) : Pj k j c S S' := ⟨h.pen, by rw [h.oth j (Ne.symm n), hc], h.len, fun i a _ => h.oth i a⟩
theorem Pj.trans {k j c c' : Nat} {S S1 S2 : Sto} (a : Pj k j c S S1) (b : Pj k j c' S1 S2) : Pj k j c' S S2 := ⟨b.pen, b.cnt, b.len.trans a.len, fun i h g => (b.oth i h g).trans (a.oth i h g)⟩
theorem toD_not_tup : ∀ p : Fm, True := fun _ => trivial
theorem formula_ok {k j : Nat} {q : Int} (n : k ≠ j) (h0 : 2 ≤ q) (h1 : q ≤ 1000) : ∀ (f : Nat) (L c : Nat) (S : Sto), 1 ≤ L → L ≤ f → L ≤ 1000 → PenAt S k → S[j]? = some (.lst [.val (.int c)]) →
    ∃ p c' S', Vd q p ∧ lvs p ≤ L ∧ tps p + c' + 1 ≤ lvs p + c ∧ Pj k j c' S S' ∧ G_law_formula f [.loc k, .val (.int q), .val (.int L), .loc j] S = .ok (.val (toD p)) S'
  | 0, L, c, S, hL, hf, _, hp, hj => by omega
  | f + 1, L, c, S, hL, hf, hx, hp, hj => by
    have main : ∃ p c' S' a b, Vd q p ∧ lvs p ≤ L ∧ tps p + c' + 1 ≤ lvs p + c ∧ Pj k j c' S S' ∧ (sIf ((xOr ((xB ((eBin fLt (eVar 2) (eC (.int 2)))))) ((xB ((eBin fEq ((eMk G_law_draw (aCons (eVar 0) (aCons (eC (.int 7)) (aNil))))) (eC (.int 0)))))))) ((sSet 4 ((eMk G_law_leaf (aCons (eVar 0) (aCons (eVar 1) (aNil))))))) ((sSeq (sSet 5 ((eBin fAdd (eC (.int 1)) ((eMk G_law_draw (aCons (eVar 0) (aCons ((eBin fSub (eVar 2) (eC (.int 1)))) (aNil))))))))
    (sSeq (sSet 6 ((eBin fIx ((eMk mkLst (aCons (eC (.str [112, 108, 117, 115])) (aCons (eC (.str [109, 105, 110, 117, 115])) (aCons (eC (.str [116, 105, 109, 101, 115])) (aCons (eC (.str [97, 110, 100])) (aCons (eC (.str [111, 114])) (aCons (eC (.str [116, 105, 109, 101, 115])) (aNil))))))))) ((eMk G_law_draw (aCons (eVar 0) (aCons (eC (.int 6)) (aNil))))))))
    (sSet 4 ((eMk mkTup (aCons (eVar 6) (aCons ((eMk (G_law_formula f) (aCons (eVar 0) (aCons (eVar 1) (aCons (eVar 5) (aCons (eVar 3) (aNil))))))) (aCons ((eMk (G_law_formula f) (aCons (eVar 0) (aCons (eVar 1) (aCons ((eBin fSub (eVar 2) (eVar 5))) (aCons (eVar 3) (aNil))))))) (aNil))))))))))) [some (.loc k), some (.val (.int q)), some (.val (.int L)), some (.loc j), some (.val .non), none, none] S = .nx [some (.loc k), some (.val (.int q)), some (.val (.int L)), some (.loc j), some (.val (toD p)), a, b] S' := by
      by_cases l2 : (L : Int) < 2
      · obtain ⟨p, S1, v, e1, e2, hn, e⟩ := leaf_ok hp h0 h1
        refine ⟨p, c, S1, none, none, v, by omega, by omega, .of hn n hj, ?_⟩
        simp [l2, e]
      obtain ⟨d, S0, d0, d1, hn0, e0⟩ := draw hp 7 (by decide) (by decide)
      by_cases dz : d = 0
      · subst dz
        obtain ⟨p, S1, v, e1, e2, hn, e⟩ := leaf_ok hn0.pen h0 h1
        refine ⟨p, c, S1, none, none, v, by omega, by omega, .of (hn0.trans hn) n hj, ?_⟩
        simp [l2, e, e0]
      have dz' : (d == 0) = false := by simpa using dz
      obtain ⟨l, S1, l0, l1, hn1, e1⟩ := draw hn0.pen ((L : Int) - 1) (by omega) (by omega)
      obtain ⟨w, S2, w0, w1, hn2, e2⟩ := draw hn1.pen 6 (by decide) (by decide)
      have hw : ∃ x, x ∈ ops ∧ atI [Mv.val (.str [112, 108, 117, 115]), .val (.str [109, 105, 110, 117, 115]), .val (.str [116, 105, 109, 101, 115]), .val (.str [97, 110, 100]), .val (.str [111, 114]), .val (.str [116, 105, 109, 101, 115])] w = some (.val (.str x)) := by
        rcases i10 w0 (by omega) with rfl | rfl | rfl | rfl | rfl | rfl | rfl | rfl | rfl | rfl
        all_goals first | exact ⟨_, by decide, rfl⟩ | omega
      obtain ⟨x, hx1, hw⟩ := hw
      obtain ⟨l', rfl⟩ : ∃ l' : Nat, l = (l' : Int) := ⟨l.toNat, by omega⟩
      have b0 := Pj.of ((hn0.trans hn1).trans hn2) n hj
      obtain ⟨p1, c1, S3, v1, g1, g2, g3, e3⟩ := formula_ok n h0 h1 f (1 + l') c S2 (by omega) (by omega) (by omega) b0.pen b0.cnt
      obtain ⟨p2, c2, S4, v2, k1, k2, k3, e4⟩ := formula_ok n h0 h1 f (L - (1 + l')) c1 S3 (by omega) (by omega) (by omega) g3.pen g3.cnt
      have e3' : G_law_formula f [.loc k, .val (.int q), .val (.int (1 + (l' : Int))), .loc j] S2 = .ok (.val (toD p1)) S3 := by
        rw [← e3, show ((1 + l' : Nat) : Int) = 1 + (l' : Int) by omega]
      have e4' : G_law_formula f [.loc k, .val (.int q), .val (.int ((L : Int) - (1 + (l' : Int)))), .loc j] S3 = .ok (.val (toD p2)) S4 := by
        rw [← e4, show ((L - (1 + l') : Nat) : Int) = (L : Int) - (1 + (l' : Int)) by omega]
      refine ⟨.op x p1 p2, c2, S4, some (.val (.int (1 + (l' : Int)))), some (.val (.str x)), ⟨hx1, v1, v2⟩, by simp only [lvs]; omega, by simp only [lvs, tps]; omega, (b0.trans g3).trans k3, ?_⟩
      simp [l2, e0, dz', e1, e2, mkLst, line_is, hw, e3', e4', mkTup, toD]
    obtain ⟨p, c', S1, a, b, v, g1, g2, g3, em⟩ := main
    suffices q : ∃ p2 c2 S2, Vd q p2 ∧ lvs p2 ≤ L ∧ tps p2 + c2 + 1 ≤ lvs p2 + c ∧ Pj k j c2 S S2 ∧ (sIf ((xAnd ((xB ((eBin fGt ((eBin fIx (eVar 3) (eC (.int 0)))) (eC (.int 0)))))) ((xB ((eBin fEq ((eMk G_law_draw (aCons (eVar 0) (aCons (eC (.int 6)) (aNil))))) (eC (.int 0)))))))) ((sSeq (sAsg ((eBin fSub ((eBin fIx (eVar 3) (eC (.int 0)))) (eC (.int 1)))) (tgSub fSetL (eVar 3) (eC (.int 0))))
    (sSet 4 ((eMk mkTup (aCons (eC (.str [110, 111, 116])) (aCons (eVar 4) (aNil)))))))) (sNil)) [some (.loc k), some (.val (.int q)), some (.val (.int L)), some (.loc j), some (.val (toD p)), a, b] S1 = .nx [some (.loc k), some (.val (.int q)), some (.val (.int L)), some (.loc j), some (.val (toD p2)), a, b] S2 by
      obtain ⟨p2, c2, S2, v2, k1, k2, k3, e2⟩ := q
      refine ⟨p2, c2, S2, v2, k1, k2, k3, ?_⟩
      simp only [G_law_formula, fnS, g_law_formula, List.length_cons, List.length_nil, if_true, List.map_cons, List.map_nil, List.replicate, List.cons_append, List.nil_append]
      rw [seq_nx (ρ1 := [some (.loc k), some (.val (.int q)), some (.val (.int L)), some (.loc j), some (.val .non), none, none]) (S1 := S) (by rfl), seq_nx em, seq_nx e2]
      rfl
    have p0 : ∀ {x : Mv}, atI [x] 0 = some x := rfl
    by_cases cz : 0 < c'
    · obtain ⟨d, S2, d0, d1, hn, e⟩ := draw g3.pen 6 (by decide) (by decide)
      have b1 := Pj.of hn n g3.cnt
      by_cases dz : d = 0
      · subst dz
        have es := fSetL_nat b1.cnt 0 (by simp) (.val (.int ((c' : Int) - 1)))
        have b2 : Pj k j (c' - 1) S2 (S2.set j (.lst [.val (.int ((c' : Int) - 1))])) := ⟨by
            obtain ⟨o, h, ho⟩ := b1.pen
            exact ⟨o, by rw [List.getElem?_set_ne (Ne.symm n)]; exact h, ho⟩, by rw [lset b1.cnt]; rw [show ((c' - 1 : Nat) : Int) = (c' : Int) - 1 by omega], by simp, fun i h g => List.getElem?_set_ne (Ne.symm g)⟩
        refine ⟨.neg p, c' - 1, _, v, g1, by simp only [lvs, tps]; omega, (g3.trans b1).trans b2, ?_⟩
        simp [seqOf_loc g3.cnt, seqOf_loc b1.cnt, p0, cz, e, mkTup, toD, tNot]
        rw [show (0 : Int) = ((0 : Nat) : Int) from rfl, es]
        simp [mkTup, line_is]
      · have dz' : (d == 0) = false := by simpa using dz
        refine ⟨p, c', S2, v, g1, g2, g3.trans b1, ?_⟩
        simp [seqOf_loc g3.cnt, p0, cz, e, dz']
    · refine ⟨p, c', S1, v, g1, g2, g3, ?_⟩
      simp [seqOf_loc g3.cnt, p0, cz]
theorem some_formula_ok {S : Sto} {k : Nat} (hp : PenAt S k) {q : Int} (h0 : 2 ≤ q) (h1 : q ≤ 1000) : ∃ p o S', Vd q p ∧ lvs p ≤ 8 ∧ tps p ≤ 11 ∧ Pn k S (S'.take S.length) ∧ S'.length = S.length + 1 ∧ S'[S.length]? = some o ∧ G_law_some_formula [.loc k, .val (.int q), .val (.int 8)] S = .ok (.val (toD p)) S' := by
  obtain ⟨L, S1, l0, l1, hn, e⟩ := draw hp 8 (by decide) (by decide)
  obtain ⟨L, rfl⟩ : ∃ l' : Nat, L = (l' : Int) := ⟨L.toNat, by omega⟩
  have hk : k < S.length := by
    obtain ⟨o, h, _⟩ := hp
    rcases Nat.lt_or_ge k S.length with q | q
    · exact q
    · rw [List.getElem?_eq_none q] at h; cases h
  have hpen : PenAt (S1 ++ [.lst [.val (.int (4 : Nat))]]) k := by
    obtain ⟨o, h, ho⟩ := hn.pen
    exact ⟨o, by rw [List.getElem?_append_left (by rw [hn.len]; exact hk)]; exact h, ho⟩
  obtain ⟨p, c', S2, v, g1, g2, g3, e2⟩ := formula_ok (k := k) (j := S1.length) (by rw [hn.len]; omega) h0 h1 20 (1 + L) 4 (S1 ++ [.lst [.val (.int (4 : Nat))]]) (by omega) (by omega) (by omega) hpen (by simp)
  have hl : S2.length = S.length + 1 := by rw [g3.len]; simp [hn.len]
  refine ⟨p, _, S2, v, by omega, by omega, ⟨?_, by simp [hl], ?_⟩, hl, by rw [← hn.len]; exact g3.cnt, ?_⟩
  · obtain ⟨o, h, ho⟩ := g3.pen
    exact ⟨o, by rw [List.getElem?_take]; simp [hk, h], ho⟩
  · intro i hi
    rw [List.getElem?_take]
    by_cases il : i < S.length
    · simp only [il, if_true]
      rw [g3.oth i hi (by rw [hn.len]; omega), List.getElem?_append_left (by rw [hn.len]; exact il), hn.oth i hi]
    · simp only [il, if_false]
      rw [List.getElem?_eq_none (by omega)]
  · have e2' : G_law_formula 20 [.loc k, .val (.int q), .val (.int (1 + (L : Int))), .loc S1.length] (S1 ++ [.lst [.val (.int 4)]]) = .ok (.val (toD p)) S2 := by
      rw [← e2, show ((1 + L : Nat) : Int) = 1 + (L : Int) by omega]; rfl
    simp [G_law_some_formula, fnS, g_law_some_formula, e, mkLoc, line_is, e2']
end TheText

namespace TheText
open PySem L2 MK
theorem forS_cnt {t : XG} {g : XS} (I : Nat → List (Option Mv) → Sto → Prop) : ∀ (ms : List Mv) (n : Nat), (∀ n, ∀ m ∈ ms, ∀ ρ S, I n ρ S → ∃ ρ' S', ((t m ρ S).only.seq fun ρ1 S1 => g ρ1 S1) = .nx ρ' S' ∧ I (n + 1) ρ' S') → ∀ ρ S, I n ρ S → ∃ ρ' S', forS always t g ms ρ S = .nx ρ' S' ∧ I (n + ms.length) ρ' S'
  | [], n, _, ρ, S, h => ⟨ρ, S, forS_nil .., h⟩
  | m :: ms, n, hs, ρ, S, h => by
    obtain ⟨ρ1, S1, e, h1⟩ := hs n m (by simp) ρ S h
    obtain ⟨ρ2, S2, e2, h2⟩ := forS_cnt I ms (n + 1) (fun n m hm => hs n m (by simp [hm])) ρ1 S1 h1
    refine ⟨ρ2, S2, ?_, by rw [List.length_cons, show n + (ms.length + 1) = n + 1 + ms.length by omega]; exact h2⟩
    rw [forS_cons]
    have q : ((t m ρ S).only.seq fun ρ1 S1 => (g ρ1 S1).turn fun ρ2 S2 => forS always t g ms ρ2 S2) = ((t m ρ S).only.seq fun ρ1 S1 => g ρ1 S1).turn fun ρ2 S2 => forS always t g ms ρ2 S2 := by
      revert e
      cases (t m ρ S) <;> simp [RS.only, RS.seq, RS.turn]
    rw [q, e]
    exact e2
theorem rng5 {ρ : List (Option Mv)} {S : Sto} : iRng1 (aCons (eC (.int 5)) aNil) ρ S = .ok (rangeL 0 5, always) S := by
  rw [iRng1_eq]
  simp only [aCons_eq, aNil_eq, eC_eq, Rz.bind_ok]
  rw [if_pos (by decide)]; rfl
theorem rng6 {ρ : List (Option Mv)} {S : Sto} : iRng1 (aCons (eC (.int 6)) aNil) ρ S = .ok (rangeL 0 6, always) S := by
  rw [iRng1_eq]
  simp only [aCons_eq, aNil_eq, eC_eq, Rz.bind_ok]
  rw [if_pos (by decide)]; rfl
theorem rng7 {ρ : List (Option Mv)} {S : Sto} : iRng1 (aCons (eC (.int 7)) aNil) ρ S = .ok (rangeL 0 7, always) S := by
  rw [iRng1_eq]
  simp only [aCons_eq, aNil_eq, eC_eq, Rz.bind_ok]
  rw [if_pos (by decide)]; rfl
theorem rng8 {ρ : List (Option Mv)} {S : Sto} : iRng1 (aCons (eC (.int 8)) aNil) ρ S = .ok (rangeL 0 8, always) S := by
  rw [iRng1_eq]
  simp only [aCons_eq, aNil_eq, eC_eq, Rz.bind_ok]
  rw [if_pos (by decide)]; rfl
theorem rng12 {ρ : List (Option Mv)} {S : Sto} : iRng1 (aCons (eC (.int 12)) aNil) ρ S = .ok (rangeL 0 12, always) S := by
  rw [iRng1_eq]
  simp only [aCons_eq, aNil_eq, eC_eq, Rz.bind_ok]
  rw [if_pos (by decide)]; rfl
theorem rangeL_len (a : Int) (n : Nat) : (rangeL a n).length = n := by simp [rangeL]
theorem Pn.refl {k : Nat} {S : Sto} (h : PenAt S k) : Pn k S S := ⟨h, rfl, fun _ _ => rfl⟩
def negs : Nat → Fm → Fm
  | 0, p => p
  | n + 1, p => .neg (negs n p)
theorem negs_ok (q : Int) (p : Fm) : ∀ n, (Vd q p → Vd q (negs n p)) ∧ lvs (negs n p) = lvs p ∧ tps (negs n p) = tps p + n ∧ dpt (negs n p) = dpt p + n
  | 0 => ⟨id, rfl, rfl, rfl⟩
  | n + 1 => by
    obtain ⟨a, b, c, d⟩ := negs_ok q p n
    exact ⟨fun h => a h, b, by simp only [negs, tps]; omega, by simp only [negs, dpt]; omega⟩
theorem nots3 {a0 a1 a2 x y : Option Mv} {S : Sto} (p : Fm) (ms : List Mv) : ∃ t, forS always (tgName 4) (sSet 3 ((eMk mkTup (aCons (eC (.str [110, 111, 116])) (aCons (eVar 3) (aNil)))))) ms [a0, a1, a2, some (.val (toD p)), x, y] S = .nx [a0, a1, a2, some (.val (toD (negs ms.length p))), t, y] S := by
  obtain ⟨ρ', S', e, t, rfl, rfl⟩ := forS_cnt (t := tgName 4) (g := (sSet 3 ((eMk mkTup (aCons (eC (.str [110, 111, 116])) (aCons (eVar 3) (aNil))))))) (fun n ρ T => ∃ t, ρ = [a0, a1, a2, some (.val (toD (negs n p))), t, y] ∧ T = S) ms 0 (by
    rintro n m _ ρ T ⟨t, rfl, rfl⟩
    exact ⟨_, _, by simp [mkTup, line_is]; exact rfl, some m, rfl, rfl⟩) _ S ⟨x, rfl, rfl⟩
  rw [Nat.zero_add] at e
  exact ⟨t, e⟩
theorem nots5 {a0 a1 a2 x y : Option Mv} {S : Sto} (p : Fm) (ms : List Mv) : ∃ t, forS always (tgName 4) (sSet 5 ((eMk mkTup (aCons (eC (.str [110, 111, 116])) (aCons (eVar 5) (aNil)))))) ms [a0, a1, a2, y, x, some (.val (toD p))] S = .nx [a0, a1, a2, y, t, some (.val (toD (negs ms.length p)))] S := by
  obtain ⟨ρ', S', e, t, rfl, rfl⟩ := forS_cnt (t := tgName 4) (g := (sSet 5 ((eMk mkTup (aCons (eC (.str [110, 111, 116])) (aCons (eVar 5) (aNil))))))) (fun n ρ T => ∃ t, ρ = [a0, a1, a2, y, t, some (.val (toD (negs n p)))] ∧ T = S) ms 0 (by
    rintro n m _ ρ T ⟨t, rfl, rfl⟩
    exact ⟨_, _, by simp [mkTup, line_is]; exact rfl, some m, rfl, rfl⟩) _ S ⟨x, rfl, rfl⟩
  rw [Nat.zero_add] at e
  exact ⟨t, e⟩
theorem chain {a1 a2 x y : Option Mv} {S : Sto} {k : Nat} (hp : PenAt S k) {q : Int} (p : Fm) (hv : Vd q p) (ms : List Mv) : ∃ p' t S', Vd q p' ∧ lvs p' = lvs p + ms.length ∧ tps p' = tps p + ms.length ∧ Pn k S S' ∧ forS always (tgName 4) (sSet 3 ((eIf ((xB ((eBin fEq ((eMk G_law_draw (aCons (eVar 0) (aCons (eC (.int 2)) (aNil))))) (eC (.int 0)))))) ((eMk mkTup (aCons (eC (.str [116, 105, 109, 101, 115])) (aCons (eVar 3) (aCons (eC (.str [110, 111, 116])) (aNil)))))) ((eMk mkTup (aCons (eC (.str [109, 105, 110, 117, 115])) (aCons (eC (.str [121])) (aCons (eVar 3) (aNil)))))))))  ms [some (.loc k), a1, a2, some (.val (toD p)), x, y] S = .nx [some (.loc k), a1, a2, some (.val (toD p')), t, y] S' := by
  obtain ⟨ρ', S', e, p', t, rfl, hv', hl, ht, hn⟩ := forS_cnt (t := tgName 4) (g := (sSet 3 ((eIf ((xB ((eBin fEq ((eMk G_law_draw (aCons (eVar 0) (aCons (eC (.int 2)) (aNil))))) (eC (.int 0)))))) ((eMk mkTup (aCons (eC (.str [116, 105, 109, 101, 115])) (aCons (eVar 3) (aCons (eC (.str [110, 111, 116])) (aNil)))))) ((eMk mkTup (aCons (eC (.str [109, 105, 110, 117, 115])) (aCons (eC (.str [121])) (aCons (eVar 3) (aNil)))))))))) (fun n ρ T => ∃ p' t, ρ = [some (.loc k), a1, a2, some (.val (toD p')), t, y] ∧ Vd q p' ∧ lvs p' = lvs p + n ∧ tps p' = tps p + n ∧ Pn k S T) ms 0 (by
    rintro n m _ ρ T ⟨p', t, rfl, hv, hl, ht, hn⟩
    obtain ⟨d, S1, d0, d1, n1, e1⟩ := draw hn.pen 2 (by decide) (by decide)
    by_cases dz : (d == 0) = true
    · refine ⟨_, _, by simp [e1, dz, mkTup, line_is]; exact rfl, .op [116, 105, 109, 101, 115] p' (.var [110, 111, 116]), some m, rfl, ⟨by decide, hv, (by decide : _ ∈ vars)⟩, by simp only [lvs]; omega, by simp only [tps]; omega, hn.trans n1⟩
    · have dz := Bool.eq_false_iff.mpr dz
      refine ⟨_, _, by simp [e1, dz, mkTup, line_is]; exact rfl, .op [109, 105, 110, 117, 115] (.var [121]) p', some m, rfl, ⟨by decide, (by decide : _ ∈ vars), hv⟩, by simp only [lvs]; omega, by simp only [tps]; omega, hn.trans n1⟩) _ S ⟨p, x, rfl, hv, rfl, rfl, .refl hp⟩
  rw [Nat.zero_add] at hl ht
  exact ⟨p', t, S', hv', hl, ht, hn, e⟩
theorem limit_ok {S : Sto} {k : Nat} (hp : PenAt S k) {q : Int} (h0 : 2 ≤ q) (h1 : q ≤ 1000) : ∃ p S', Vd q p ∧ lvs p ≤ 8 ∧ tps p ≤ 16 ∧ dpt p ≤ 12 ∧ Pn k S S' ∧ G_law_limit_formula [.loc k, .val (.int q)] S = .ok (.val (toD p)) S' := by
  obtain ⟨o, S1, o0, o1, n1, e1⟩ := draw hp 3 (by decide) (by decide)
  obtain ⟨b, S2, b0, b1, n2, e2⟩ := draw n1.pen 4 (by decide) (by decide)
  have hq : ∃ p, Vd q p ∧ lvs p = 1 ∧ tps p = 0 ∧ dpt p = 0 ∧ atI [Mv.val (.str [112, 108, 117, 115]), .val (.str [111, 114]), .val (.str [120]), .val (.int (q - 1))] b = some (.val (toD p)) := by
    have : b = 0 ∨ b = 1 ∨ b = 2 ∨ b = 3 := by omega
    rcases this with rfl | rfl | rfl | rfl
    · exact ⟨.var [112, 108, 117, 115], (by decide : _ ∈ vars), rfl, rfl, rfl, rfl⟩
    · exact ⟨.var [111, 114], (by decide : _ ∈ vars), rfl, rfl, rfl, rfl⟩
    · exact ⟨.var [120], (by decide : _ ∈ vars), rfl, rfl, rfl, rfl⟩
    · exact ⟨.res (q - 1), (⟨by omega, by omega⟩ : 0 ≤ q - 1 ∧ q - 1 < q), rfl, rfl, rfl, rfl⟩
  obtain ⟨p, vp, l1, t1, d1, hq⟩ := hq
  simp only [G_law_limit_formula, fnS, g_law_limit_formula, List.length_cons, List.length_nil, if_true, List.map_cons, List.map_nil, List.replicate, List.cons_append, List.nil_append]
  rw [seq_nx (ρ1 := [some (.loc k), some (.val (.int q)), some (.val (.int o)), none, none, none]) (S1 := S1) (by simp [e1])]
  rw [seq_nx (ρ1 := [some (.loc k), some (.val (.int q)), some (.val (.int o)), some (.val (toD p)), none, none]) (S1 := S2) (by simp [e2, mkLst, line_is, hq])]
  have n12 := n1.trans n2
  have fin : ∀ {c : XS} {ρ : List (Option Mv)} {p t y} {S' : Sto}, c ρ S2 = .nx [some (.loc k), some (.val (.int q)), some (.val (.int o)), some (.val (toD p)), t, y] S' → (sSeq c (sRet (eVar 3)) ρ S2).fin = .ok (.val (toD p)) S' := by
    intro c ρ p t y S' h
    rw [seq_nx h]; rfl
  by_cases oz : (o == 0) = true
  · obtain ⟨p', t, S', hv', hl, ht, hn, e⟩ := chain (a1 := some (.val (.int q))) (a2 := some (.val (.int o))) (x := none) (y := none) n12.pen p vp (rangeL 0 7)
    rw [rangeL_len] at hl ht
    have := dpt_tps p'
    refine ⟨p', S', hv', by omega, by omega, by omega, n12.trans hn, fin (t := t) (y := none) ?_⟩
    rw [← e]
    simp only [sIf_eq, xB_eq, eBin_eq, eVar_eq, eC_eq, List.getElem?_cons_zero, List.getElem?_cons_succ, Rz.bind_ok, fEqq_int, oz, Rz.thn_ok, sFor_eq, rng7]
    rfl
  have oz := Bool.eq_false_iff.mpr oz
  by_cases o1 : (o == 1) = true
  · obtain ⟨t, e⟩ := nots3 (a0 := some (.loc k)) (a1 := some (.val (.int q))) (a2 := some (.val (.int o))) (x := none) (y := none) (S := S2) p (rangeL 0 12)
    rw [rangeL_len] at e
    obtain ⟨c1, c2, c3, c4⟩ := negs_ok q p 12
    refine ⟨negs 12 p, S2, c1 vp, by omega, by omega, by omega, n12, fin (t := t) (y := none) ?_⟩
    rw [← e]
    simp only [sIf_eq, xB_eq, eBin_eq, eVar_eq, eC_eq, List.getElem?_cons_zero, List.getElem?_cons_succ, Rz.bind_ok, fEqq_int, oz, o1, Rz.thn_ok, sFor_eq, rng12]
    rfl
  have o1 := Bool.eq_false_iff.mpr o1
  obtain ⟨t, e⟩ := nots3 (a0 := some (.loc k)) (a1 := some (.val (.int q))) (a2 := some (.val (.int o))) (x := none) (y := some (.val (toD p))) (S := S2) p (rangeL 0 8)
  rw [rangeL_len] at e
  obtain ⟨t', e'⟩ := nots5 (a0 := some (.loc k)) (a1 := some (.val (.int q))) (a2 := some (.val (.int o))) (x := t) (y := some (.val (toD (negs 8 p)))) (S := S2) p (rangeL 0 7)
  rw [rangeL_len] at e'
  obtain ⟨c1, c2, c3, c4⟩ := negs_ok q p 8
  obtain ⟨b1, b2, b3, b4⟩ := negs_ok q p 7
  refine ⟨.op [97, 110, 100] (negs 8 p) (negs 7 p), S2, ⟨by decide, c1 vp, b1 vp⟩, by simp only [lvs]; omega, by simp only [tps]; omega, by simp only [dpt]; omega, n12, fin (t := t') (y := some (.val (toD (negs 7 p)))) ?_⟩
  simp only [sIf_eq, xB_eq, eBin_eq, eVar_eq, eC_eq, List.getElem?_cons_zero, List.getElem?_cons_succ, Rz.bind_ok, fEqq_int, oz, o1, Rz.thn_ok]
  rw [seq_nx (ρ1 := [some (.loc k), some (.val (.int q)), some (.val (.int o)), some (.val (toD p)), none, some (.val (toD p))]) (S1 := S2) (by simp)]
  rw [seq_nx (ρ1 := [some (.loc k), some (.val (.int q)), some (.val (.int o)), some (.val (toD (negs 8 p))), t, some (.val (toD p))]) (S1 := S2) (by
    rw [← e]; simp only [sFor_eq, rng8]; rfl)]
  rw [seq_nx (ρ1 := [some (.loc k), some (.val (.int q)), some (.val (.int o)), some (.val (toD (negs 8 p))), t', some (.val (toD (negs 7 p)))]) (S1 := S2) (by
    rw [← e']; simp only [sFor_eq, rng7]; rfl)]
  simp [mkTup, line_is, toD]
end TheText

namespace TheText
open PySem L2 MK
def digs (n : Nat) : Tx := if n < 10 then [48 + n] else if n < 100 then [48 + n / 10, 48 + n % 10] else [48 + n / 100, 48 + n / 10 % 10, 48 + n % 10]
theorem dec_digs0 : ∀ n : Fin 1000, dec (n.val : Int) = digs n.val := by decide +kernel
theorem dec_digs {i : Int} (h0 : 0 ≤ i) (h1 : i < 1000) : dec i = digs i.toNat := by
  have := dec_digs0 ⟨i.toNat, by omega⟩
  simp only at this
  rwa [Int.toNat_of_nonneg h0] at this
def fmt : Fm → Tx
  | .res i => dec i
  | .var x => x
  | .neg p => tNot ++ [40] ++ fmt p ++ [41]
  | .op w p q => w ++ [40] ++ (fmt p ++ [44] ++ fmt q) ++ [41]
theorem vars_len : ∀ x ∈ vars, x.length ≤ 6 := by decide
theorem ops_len : ∀ x ∈ ops, x.length ≤ 5 := by decide
theorem digs_len (n : Nat) : (digs n).length ≤ 3 := by
  unfold digs
  split
  · simp
  · split <;> simp
theorem Vd.mono {q q' : Int} (h : q ≤ q') : ∀ {p : Fm}, Vd q p → Vd q' p
  | .res i, v => ⟨v.1, by have := v.2; omega⟩
  | .var _, v => v
  | .neg p, v => Vd.mono h (p := p) v
  | .op _ p r, v => ⟨v.1, Vd.mono h (p := p) v.2.1, Vd.mono h (p := r) v.2.2⟩
theorem fmt_len : ∀ {p : Fm}, Vd 1000 p → (fmt p).length ≤ 6 * lvs p + 8 * tps p
  | .res i, v => by
    have := digs_len i.toNat
    simp only [fmt, lvs, tps, dec_digs v.1 v.2]; omega
  | .var x, v => by have := vars_len x v; simp only [fmt, lvs, tps]; omega
  | .neg p, v => by
    have := fmt_len (p := p) v
    simp only [fmt, lvs, tps, List.length_append, List.length_cons, List.length_nil, tNot]; omega
  | .op w p r, v => by
    have := fmt_len (p := p) v.2.1
    have := fmt_len (p := r) v.2.2
    have := ops_len w v.1
    simp only [fmt, lvs, tps, List.length_append, List.length_cons, List.length_nil]; omega
@[simp] theorem tyN_int (i : Int) (S : Sto) : tyN S (.val (.int i)) = some "int" := rfl
@[simp] theorem tyN_str (i : Tx) (S : Sto) : tyN S (.val (.str i)) = some "str" := rfl
@[simp] theorem tyN_tup (i : List Dv) (S : Sto) : tyN S (.val (.tup i)) = some "tuple" := rfl
theorem log_small {i : Int} (h0 : 0 ≤ i) (h1 : i < 1000) : i.natAbs.log2 < 1920 := by
  by_cases hz : i.natAbs = 0
  · rw [hz]; decide
  · exact (Nat.log2_lt hz).mpr (Nat.lt_of_lt_of_le (by omega : i.natAbs < 2 ^ 10) (Nat.pow_le_pow_right (by decide) (by decide)))
@[simp] theorem fStr_str (x : Tx) (S : Sto) : fStr [.val (.str x)] S = .ok (.val (.str x)) S := rfl
theorem fStr_int {i : Int} {S : Sto} (h : i.natAbs.log2 < 1920) : fStr [.val (.int i)] S = .ok (.val (.str (dec i))) S := by
  show (if _ then _ else _) = _
  rw [if_pos h]
theorem isT1 : isT "tuple" "int" = false := by decide
theorem isT2 : isT "tuple" "str" = false := by decide
theorem isT3 : isT "tuple" "tuple" = true := by decide
theorem fSl_tup (mk) (ds : List Dv) (lo hi) (S : Sto) : fSl mk (.val (.tup ds)) lo hi S = .ok (.val (.tup (cut ds lo hi))) S := rfl
theorem form_ok (rec : PFn) {p : Fm} (v : Vd 1000 p) (h1 : lvs p ≤ 100) (h2 : tps p ≤ 100) (hr : ∀ p', dpt p' < dpt p → Vd 1000 p' → lvs p' ≤ 100 → tps p' ≤ 100 → rec [toD p'] = .ok (.str (fmt p'))) : fnP 1 2 (g_format_formula rec) [toD p] = .ok (.str (fmt p)) := by
  cases p with
  | res i => simp [fnP, fnS, g_format_formula, toD, isT1, fStr_int (log_small v.1 v.2), fmt, Rz.pure0, rfy]
  | var x => simp [fnP, fnS, g_format_formula, toD, isT2, fmt, Rz.pure0, rfy]
  | neg p =>
    have e := hr p (by simp only [dpt]; omega) v (by simpa only [lvs] using h1) (by simp only [tps] at h2; omega)
    have l := fmt_len (p := p) v
    simp only [lvs, tps] at h1 h2
    have c1 : (fmt p).length ≤ 16777215 := by omega
    have c2 : 4 + (fmt p).length ≤ 16777216 := by omega
    have c3 : (fmt p).length + 4 + 1 ≤ 16777216 := by omega
    have c4 : 4 + (fmt p).length + 1 ≤ 16777216 := by omega
    have c5 : (fmt p).length + 1 + 1 + 1 + 1 + 1 ≤ 16777216 := by omega
    have c6 : (fmt p).length ≤ 16777211 := by omega
    have c7 : (fmt p).length ≤ 16777212 := by omega
    simp [fnP, fnS, g_format_formula, toD, isT3, fSl_tup, cut, HT.sIx, atI, ixN, e, fmt, line_is, tgSet, wipeM, Tg.ix, finL, fJoin, strsD, joinT, tNot, Rz.pure0, rfy, isStr, c1, c2, c3, c4, c5, c6, c7]
  | op w p q =>
    have e1 := hr p (by simp only [dpt]; omega) v.2.1 (by simp only [lvs] at h1; omega) (by simp only [tps] at h2; omega)
    have e2 := hr q (by simp only [dpt]; omega) v.2.2 (by simp only [lvs] at h1; omega) (by simp only [tps] at h2; omega)
    have l1 := fmt_len (p := p) v.2.1
    have l2 := fmt_len (p := q) v.2.2
    have l3 := ops_len w v.1
    simp only [lvs, tps] at h1 h2
    obtain ⟨a, ha⟩ : ∃ a, a = (fmt p).length := ⟨_, rfl⟩
    obtain ⟨b, hb⟩ : ∃ a, a = (fmt q).length := ⟨_, rfl⟩
    obtain ⟨c, hc⟩ : ∃ a, a = w.length := ⟨_, rfl⟩
    rw [← ha] at l1
    rw [← hb] at l2
    rw [← hc] at l3
    have g1 : c ≤ 16777215 := by omega
    have g2 : a + b + 2 ≤ 16777216 := by omega
    have g3 : c + 1 + (a + (b + 1)) ≤ 16777216 := by omega
    have g4 : c + 1 + (a + (b + 1)) + 1 ≤ 16777216 := by omega
    have g5 : c + 1 ≤ 16777216 := by omega
    have g6 : c + (a + (b + 1) + 1) ≤ 16777215 := by omega
    have g7 : c + (a + (b + 1) + 1) + 1 ≤ 16777216 := by omega
    have g8 : c + (a + (b + 1) + 1) ≤ 16777216 := by omega
    have g9 : a + b ≤ 16777214 := by omega
    simp [fnP, fnS, g_format_formula, toD, isT3, fSl_tup, cut, HT.sIx, atI, ixN, e1, e2, fmt, line_is, tgSet, wipeM, Tg.ix, finL, fJoin, strsD, joinT, Rz.pure0, rfy, isStr, ← ha, ← hb, ← hc, g1, g2, g3, g4, g5, g6, g7, g8, g9]
theorem format_ok : ∀ (n : Nat) {p : Fm}, Vd 1000 p → lvs p ≤ 100 → tps p ≤ 100 → dpt p < n → G_format_formula n [toD p] = .ok (.str (fmt p))
  | 0, p, v, _, _, h => by omega
  | n + 1, p, v, h1, h2, h => form_ok (G_format_formula n) v h1 h2 fun p' hd v' a b => format_ok n v' a b (by omega)
theorem text_ok : ∀ (n : Nat) {p : Fm}, Vd 1000 p → lvs p ≤ 100 → tps p ≤ 100 → dpt p < n → G_law_text n [toD p] = .ok (.str (fmt p))
  | 0, p, v, _, _, h => by omega
  | n + 1, p, v, h1, h2, h => form_ok (G_law_text n) v h1 h2 fun p' hd v' a b => text_ok n v' a b (by omega)
end TheText

namespace TheText
open PySem L2 MK
section
variable (t : Tx) (q : Int) (p : Nat) (ks : List Nat) (lv tp dp : Nat) (F : List Ob) (ρ : List (Option Mv))
def RSt : Sto := .ins "FormulaReader" [("text", .val (.str t)), ("modulus", .val (.int q)), ("position", .val (.int p)), ("stack", .loc 1), ("leaves", .val (.int lv)), ("tuples", .val (.int tp)), ("depth", .val (.int dp))] :: .lst (ks.map .loc) :: F
theorem fld_text : eFld "FormulaReader" "text" (eVar 0) (some (.loc 0) :: ρ) (RSt t q p ks lv tp dp F) = .ok (.val (.str t)) (RSt t q p ks lv tp dp F) := by
  simp only [eFld_eq, eVar_eq, List.getElem?_cons_zero, Rz.bind_ok]; rfl
theorem fld_mod : eFld "FormulaReader" "modulus" (eVar 0) (some (.loc 0) :: ρ) (RSt t q p ks lv tp dp F) = .ok (.val (.int q)) (RSt t q p ks lv tp dp F) := by
  simp only [eFld_eq, eVar_eq, List.getElem?_cons_zero, Rz.bind_ok]; rfl
theorem fld_pos : eFld "FormulaReader" "position" (eVar 0) (some (.loc 0) :: ρ) (RSt t q p ks lv tp dp F) = .ok (.val (.int p)) (RSt t q p ks lv tp dp F) := by
  simp only [eFld_eq, eVar_eq, List.getElem?_cons_zero, Rz.bind_ok]; rfl
theorem fld_stack : eFld "FormulaReader" "stack" (eVar 0) (some (.loc 0) :: ρ) (RSt t q p ks lv tp dp F) = .ok (.loc 1) (RSt t q p ks lv tp dp F) := by
  simp only [eFld_eq, eVar_eq, List.getElem?_cons_zero, Rz.bind_ok]; rfl
theorem fld_leaves : eFld "FormulaReader" "leaves" (eVar 0) (some (.loc 0) :: ρ) (RSt t q p ks lv tp dp F) = .ok (.val (.int lv)) (RSt t q p ks lv tp dp F) := by
  simp only [eFld_eq, eVar_eq, List.getElem?_cons_zero, Rz.bind_ok]; rfl
theorem fld_tuples : eFld "FormulaReader" "tuples" (eVar 0) (some (.loc 0) :: ρ) (RSt t q p ks lv tp dp F) = .ok (.val (.int tp)) (RSt t q p ks lv tp dp F) := by
  simp only [eFld_eq, eVar_eq, List.getElem?_cons_zero, Rz.bind_ok]; rfl
theorem fld_depth : eFld "FormulaReader" "depth" (eVar 0) (some (.loc 0) :: ρ) (RSt t q p ks lv tp dp F) = .ok (.val (.int dp)) (RSt t q p ks lv tp dp F) := by
  simp only [eFld_eq, eVar_eq, List.getElem?_cons_zero, Rz.bind_ok]; rfl
theorem aug_pos : sFldAug "FormulaReader" "position" fAddI (eVar 0) (eC (.int 1)) (some (.loc 0) :: ρ) (RSt t q p ks lv tp dp F) = .nx (some (.loc 0) :: ρ) (RSt t q (p + 1) ks lv tp dp F) := by
  simp only [sFldAug_eq, eVar_eq, eC_eq, List.getElem?_cons_zero, Rz.thn_ok]; rfl
theorem aug_leaves : sFldAug "FormulaReader" "leaves" fAddI (eVar 0) (eC (.int 1)) (some (.loc 0) :: ρ) (RSt t q p ks lv tp dp F) = .nx (some (.loc 0) :: ρ) (RSt t q p ks (lv + 1) tp dp F) := by
  simp only [sFldAug_eq, eVar_eq, eC_eq, List.getElem?_cons_zero, Rz.thn_ok]; rfl
theorem aug_tuples : sFldAug "FormulaReader" "tuples" fAddI (eVar 0) (eC (.int 1)) (some (.loc 0) :: ρ) (RSt t q p ks lv tp dp F) = .nx (some (.loc 0) :: ρ) (RSt t q p ks lv (tp + 1) dp F) := by
  simp only [sFldAug_eq, eVar_eq, eC_eq, List.getElem?_cons_zero, Rz.thn_ok]; rfl
theorem set_pos (p' : Nat) : tgFld "FormulaReader" "position" (eVar 0) (.val (.int p')) (some (.loc 0) :: ρ) (RSt t q p ks lv tp dp F) = .nx (some (.loc 0) :: ρ) (RSt t q p' ks lv tp dp F) := by
  simp only [tgFld_eq, eVar_eq, List.getElem?_cons_zero, Rz.thn_ok]; rfl
theorem set_depth {fe : XE} {p' : Nat} (hf : fe (some (.loc 0) :: ρ) (RSt t q p ks lv tp dp F) = .ok (.val (.int p')) (RSt t q p ks lv tp dp F)) : sFldS "FormulaReader" "depth" (eVar 0) fe (some (.loc 0) :: ρ) (RSt t q p ks lv tp dp F) = .nx (some (.loc 0) :: ρ) (RSt t q p ks lv tp p' F) := by
  simp only [sFldS_eq, eVar_eq, List.getElem?_cons_zero, hf, Rz.thn_ok]; rfl
end
theorem cut_at (t : Tx) (p : Nat) : cut t (some (p : Int)) (some ((p : Int) + 1)) = (t.drop p).take 1 := by
  unfold cut
  rw [show ((p : Int) + 1) = ((p + 1 : Nat) : Int) from rfl, HT.sIx_nat, HT.sIx_nat]
  rcases Nat.lt_or_ge p t.length with h | h
  · rw [Nat.min_eq_left (by omega), Nat.min_eq_left (by omega), Nat.add_sub_cancel_left]
  · rw [Nat.min_eq_right h, Nat.min_eq_right (by omega), Nat.sub_self, List.drop_length, List.drop_eq_nil_of_le h]; rfl
theorem cut_mid (t : Tx) (p n : Nat) (h : p + n ≤ t.length) : cut t (some (p : Int)) (some ((p + n : Nat) : Int)) = (t.drop p).take n := by
  unfold cut
  rw [HT.sIx_nat, HT.sIx_nat, Nat.min_eq_left h, Nat.min_eq_left (by omega), Nat.add_sub_cancel_left]
theorem at_drop {t : Tx} {p : Nat} {c : Nat} {r : Tx} (h : t.drop p = c :: r) : t[p]? = some c ∧ p < t.length ∧ t.drop (p + 1) = r := by
  have hp : p < t.length := by
    rcases Nat.lt_or_ge p t.length with q | q
    · exact q
    · rw [List.drop_eq_nil_of_le q] at h; cases h
  refine ⟨?_, hp, ?_⟩
  · have : t[p]? = (t.drop p)[0]? := by rw [List.getElem?_drop]; rfl
    rw [this, h]; rfl
  · rw [← List.drop_drop, h]; rfl
theorem at_end {t : Tx} {p : Nat} (h : t.drop p = []) : t.length ≤ p := List.drop_eq_nil_iff.mp h
def tDig : Tx := [48, 49, 50, 51, 52, 53, 54, 55, 56, 57]
def tLet : Tx := [97, 98, 99, 100, 101, 102, 103, 104, 105, 106, 107, 108, 109, 110, 111, 112, 113, 114, 115, 116, 117, 118, 119, 120, 121, 122]
/-- what may come after a formula -/
def Aft (r : Tx) : Prop := r = [] ∨ ∃ c s, r = c :: s ∧ (c = 44 ∨ c = 41)
theorem Aft.dig {c : Nat} {s : Tx} (h : Aft (c :: s)) : c ∉ tDig ∧ c ∉ tLet ∧ c ≠ 40 := by
  rcases h with h | ⟨c', s', e, h⟩
  · cases h
  · cases e
    rcases h with rfl | rfl <;> decide
theorem fIntOf_str (x : Tx) (S : Sto) : fIntOf [.val (.str x)] S = if x.length ≤ 640 then (match PySem.intText? (sT x) with
    | some n => .ok (.val (.int n)) S
    | none => .stuck) else .stuck := rfl
theorem intOf_dig {d : Nat} (h : d < 10) (S : Sto) : fIntOf [.val (.str [48 + d])] S = .ok (.val (.int d)) S := by
  have : ∀ d : Fin 10, PySem.intText? (sT [48 + d.val]) = some (d.val : Int) := by decide +kernel
  have := this ⟨d, h⟩
  simp only at this
  rw [fIntOf_str, if_pos (by simp), this]
theorem mem_dig {d : Nat} (h : d < 10) : (48 + d) ∈ tDig := by
  have : ∀ d : Fin 10, (48 + d.val) ∈ tDig := by decide
  exact this ⟨d, h⟩
@[simp] theorem fInS_eq (neg : Bool) (c : Nat) (z : Tx) (S : Sto) : fInS neg (.val (.str [c])) (.val (.str z)) S = .ok (.val (.bl (decide (c ∈ z) != neg))) S := rfl
theorem fSl_str (mk) (z : Tx) (lo hi) (S : Sto) : fSl mk (.val (.str z)) lo hi S = if z.length ≤ sizeLine then .ok (.val (.str (cut z lo hi))) S else .stuck := rfl
theorem okT1 (c : Nat) (h : c < 1114112) : okT [c] = true := by simp [okT, h]
theorem whileS_succ (n : Nat) (c : XT) (g : XS) (ρ S) : whileS (n + 1) c g ρ S = (c ρ S).thn ρ fun b S1 => match b with
    | true => (g ρ S1).turn fun ρ2 S2 => whileS n c g ρ2 S2
    | false => .nx ρ S1 := rfl
end TheText

/-! the loops' parts, printed from the body's text -/
namespace TheText
open PySem L2 MK
noncomputable abbrev wc_read_residue : XT := ((xAnd ((xB ((eBin fLt (eVar 4) ((eMk fLen (aCons (eVar 0) (aNil)))))))) ((xB ((eBin (fInS false) ((eBin fIx (eVar 0) (eVar 4))) (eC (.str [48, 49, 50, 51, 52, 53, 54, 55, 56, 57]))))))))
noncomputable abbrev wb_read_residue : XS := ((sSeq (sSet 5 ((eBin fAdd ((eBin fMul (eC (.int 10)) (eVar 3))) ((eMk fIntOf (aCons ((eBin fIx (eVar 0) (eVar 4))) (aNil)))))))
    (sSeq (sIf ((xOr ((xB ((eBin fEq (eVar 3) (eC (.int 0)))))) ((xB ((eBin fGe (eVar 5) (eVar 2))))))) (sNever) (sNil))
    (sSeq (sSet 3 (eVar 5))
    (sAug 4 fAddI (eC (.int 1)))))))
noncomputable abbrev wc_FormulaReader_read_word : XT := ((xAnd ((xB ((eBin fLt ((eFld "FormulaReader" "position" (eVar 0))) ((eMk fLen (aCons ((eFld "FormulaReader" "text" (eVar 0))) (aNil)))))))) ((xB ((eBin (fInS false) ((eBin fIx ((eFld "FormulaReader" "text" (eVar 0))) ((eFld "FormulaReader" "position" (eVar 0))))) (eC (.str [97, 98, 99, 100, 101, 102, 103, 104, 105, 106, 107, 108, 109, 110, 111, 112, 113, 114, 115, 116, 117, 118, 119, 120, 121, 122]))))))))
noncomputable abbrev wb_FormulaReader_read_word : XS := ((sSeq (sIf ((xB ((eBin fEq ((eBin fSub ((eFld "FormulaReader" "position" (eVar 0))) (eVar 1))) (eC (.int 6)))))) (sNever) (sNil))
    (sFldAug "FormulaReader" "position" fAddI (eVar 0) (eC (.int 1)))))
noncomputable abbrev wc_FormulaReader_finish : XT := ((xB ((eBin fNe ((eFld "FormulaReader" "stack" (eVar 0))) ((eMk mkLst (aNil)))))))
noncomputable abbrev wb_FormulaReader_finish : XS := ((sSeq (sSet 2 ((eBin fIx ((eFld "FormulaReader" "stack" (eVar 0))) ((eUn fNeg (eC (.int 1)))))))
    (sSeq (sExpr ((eBm fAppend isLst (eVar 2) (aCons (eVar 1) (aNil)))))
    (sSeq (sSet 3 ((eIf ((xB ((eBin fLe ((eMk fLen (aCons (eVar 2) (aNil)))) ((eIxKD kd_OPERANDS ((eBin fIx (eVar 2) (eC (.int 0)))))))))) (eC (.str [44])) (eC (.str [41])))))
    (sSeq (sIf ((xB ((eBin fNe ((eSl mkLst ((eFld "FormulaReader" "text" (eVar 0))) (xoS ((eFld "FormulaReader" "position" (eVar 0)))) (xoS ((eBin fAdd ((eFld "FormulaReader" "position" (eVar 0))) (eC (.int 1))))))) (eVar 3))))) (sNever) (sNil))
    (sSeq (sFldAug "FormulaReader" "position" fAddI (eVar 0) (eC (.int 1)))
    (sSeq (sIf ((xB ((eBin fEq (eVar 3) (eC (.str [44])))))) ((sRet (eC .non))) (sNil))
    (sSet 1 ((eMk fTupOf (aCons ((eBmN fPop isLst ((eFld "FormulaReader" "stack" (eVar 0))))) (aNil))))))))))))
noncomputable abbrev wc_parse_formula : XT := ((xB ((eBin (fIsN false) (eVar 3) (eC .non)))))
noncomputable abbrev wb_parse_formula : XS := ((sSeq (sSet 4 ((eMeth "FormulaReader" "read_start" G_FormulaReader_read_start (eVar 2) aNil)))
    (sIf ((xB ((eBin (fIsN true) (eVar 4) (eC .non))))) ((sSet 3 ((eMeth "FormulaReader" "finish" G_FormulaReader_finish (eVar 2) (aCons (eVar 4) (aNil)))))) (sNil))))
end TheText

namespace TheText
open PySem L2 MK
theorem rr_step {t : Tx} {s q v e d : Nat} {x : Option Mv} {r : Tx} {S : Sto} (n : Nat) (ht : t.length ≤ 16777216) (h : t.drop e = (48 + d) :: r) (hd : d < 10) (hv : v ≠ 0) (hq : 10 * v + d < q) :
    whileS (n + 1) wc_read_residue wb_read_residue [some (.val (.str t)), some (.val (.int s)), some (.val (.int q)), some (.val (.int v)), some (.val (.int e)), x] S
      = whileS n wc_read_residue wb_read_residue [some (.val (.str t)), some (.val (.int s)), some (.val (.int q)), some (.val (.int (10 * v + d : Nat))), some (.val (.int (e + 1 : Nat))), some (.val (.int (10 * v + d : Nat)))] S := by
  obtain ⟨h1, h2, h3⟩ := at_drop h
  have h2' : (e : Int) < (t.length : Int) := by omega
  have m := mem_dig hd
  have e1 : ((v : Int) == 0) = false := by simp; omega
  have e2 : decide ((q : Int) ≤ 10 * (v : Int) + (d : Int)) = false := by simp; omega
  have e3 : fMul (.val (.int 10)) (.val (.int (v : Int))) S = .ok (.val (.int (10 * (v : Int)))) S := fMul_l (by decide) (by decide)
  unfold tDig at m
  rw [whileS_succ]
  simp only [xAnd_eq, xB_eq, eBin_eq, eVar_eq, eC_eq, eMk_eq, aCons_eq, aNil_eq, List.getElem?_cons_zero, List.getElem?_cons_succ, Rz.bind_ok, fLen_str, line_is, if_pos ht, fInt_eq, if_true, decide_eq_true h2', fIx_str, atI_n, h1, fInS_eq, decide_eq_true m, Rz.thn_ok, show (true != false) = true from rfl]
  simp only [wb_read_residue, sSeq_eq, sSet_eq, eBin_eq, eVar_eq, eC_eq, eMk_eq, aCons_eq, aNil_eq, List.getElem?_cons_zero, List.getElem?_cons_succ, Rz.bind_ok, Rz.thn_ok, e3, fIx_str, line_is, if_pos ht, atI_n, h1, intOf_dig hd, fAdd_int, List.set_cons_succ, List.set_cons_zero, RS.seq_nx, sIf_eq, xOr_eq, xB_eq, fEqq_int, e1, fInt_eq, if_true, e2, sNil_eq, sAug_eq, RS.turn_nx, show (false != false) = false from rfl]
  rfl
theorem rr_stop {t : Tx} {s q v e : Nat} {x : Option Mv} {S : Sto} (n : Nat) (ht : t.length ≤ 16777216) (h : Aft (t.drop e)) :
    whileS (n + 1) wc_read_residue wb_read_residue [some (.val (.str t)), some (.val (.int s)), some (.val (.int q)), some (.val (.int v)), some (.val (.int e)), x] S
      = .nx [some (.val (.str t)), some (.val (.int s)), some (.val (.int q)), some (.val (.int v)), some (.val (.int e)), x] S := by
  rw [whileS_succ]
  cases hr : t.drop e with
  | nil =>
    have h2 := at_end hr
    have h2' : decide ((e : Int) < (t.length : Int)) = false := by simp; omega
    simp only [xAnd_eq, xB_eq, eBin_eq, eVar_eq, eC_eq, eMk_eq, aCons_eq, aNil_eq, List.getElem?_cons_zero, List.getElem?_cons_succ, Rz.bind_ok, fLen_str, line_is, if_pos ht, fInt_eq, if_true, h2', Rz.thn_ok]
  | cons c r =>
    obtain ⟨h1, h2, h3⟩ := at_drop hr
    have h2' : (e : Int) < (t.length : Int) := by omega
    rw [hr] at h
    have m := h.dig.1
    unfold tDig at m
    simp only [xAnd_eq, xB_eq, eBin_eq, eVar_eq, eC_eq, eMk_eq, aCons_eq, aNil_eq, List.getElem?_cons_zero, List.getElem?_cons_succ, Rz.bind_ok, fLen_str, line_is, if_pos ht, fInt_eq, if_true, decide_eq_true h2', fIx_str, atI_n, h1, fInS_eq, decide_eq_false m, Rz.thn_ok, show (false != false) = false from rfl]
theorem residue_ok {t : Tx} {p q i : Nat} {r : Tx} (ht : t.length ≤ 16777216) (h : t.drop p = digs i ++ r) (hr : Aft r) (hi : i < q) (hq : i < 1000) : G_read_residue [.str t, .int p, .int q] = .ok (.tup [.int i, .int (p + (digs i).length : Nat)]) := by
  suffices Q : ∃ d r1 n x, d < 10 ∧ d < q ∧ t.drop p = (48 + d) :: r1 ∧ whileS 100000 wc_read_residue wb_read_residue [some (.val (.str t)), some (.val (.int p)), some (.val (.int q)), some (.val (.int d)), some (.val (.int (p + 1 : Nat))), none] [] = whileS (n + 1) wc_read_residue wb_read_residue [some (.val (.str t)), some (.val (.int p)), some (.val (.int q)), some (.val (.int i)), some (.val (.int (p + (digs i).length : Nat))), x] [] ∧ t.drop (p + (digs i).length) = r by
    obtain ⟨d, r1, n, x, d1, d2, d3, e, hr2⟩ := Q
    obtain ⟨h1, h2, h3⟩ := at_drop d3
    rw [rr_stop n ht (by rw [hr2]; exact hr)] at e
    have m := mem_dig d1
    unfold tDig at m
    have e2 : decide ((q : Int) ≤ (d : Int)) = false := by simp; omega
    have e0 : okT [48 + d] = true := okT1 _ (by omega)
    simp only [G_read_residue, fnP, fnS, g_read_residue, List.length_cons, List.length_nil, if_true, List.map_cons, List.map_nil, List.replicate, List.cons_append, List.nil_append]
    rw [seq_nx (ρ1 := [some (.val (.str t)), some (.val (.int p)), some (.val (.int q)), none, none, none]) (S1 := []) (by
      simp only [sIf_eq, xOr_eq, xB_eq, eBin_eq, eSl_eq, xoS_eq, eVar_eq, eC_eq, eMk_eq, aCons_eq, aNil_eq, List.getElem?_cons_zero, List.getElem?_cons_succ, Rz.bind_ok, fAdd_int, fSl_str, line_is, if_pos ht, cut_at, d3, List.take_succ_cons, List.take_zero, fEqq_str false _ e0 (show okT [] = true from rfl), show (([48 + d] : Tx) == []) = false from rfl, fIx_str, atI_n, h1, fInS_eq, decide_eq_true m, intOf_dig d1, fInt_eq, if_true, e2, Rz.thn_ok, sNil_eq, show (false != false) = false from rfl, show (true != true) = false from rfl])]
    rw [seq_nx (ρ1 := [some (.val (.str t)), some (.val (.int p)), some (.val (.int q)), some (.val (.int d)), none, none]) (S1 := []) (by
      simp only [sSet_eq, eBin_eq, eVar_eq, eMk_eq, aCons_eq, aNil_eq, List.getElem?_cons_zero, List.getElem?_cons_succ, Rz.bind_ok, fIx_str, line_is, if_pos ht, atI_n, h1, intOf_dig d1, Rz.thn_ok, List.set_cons_succ, List.set_cons_zero])]
    rw [seq_nx (ρ1 := [some (.val (.str t)), some (.val (.int p)), some (.val (.int q)), some (.val (.int d)), some (.val (.int (p + 1 : Nat))), none]) (S1 := []) (by
      simp only [sSet_eq, eBin_eq, eVar_eq, eC_eq, List.getElem?_cons_zero, List.getElem?_cons_succ, Rz.bind_ok, fAdd_int, Rz.thn_ok, List.set_cons_succ, List.set_cons_zero]; rfl)]
    rw [seq_nx (ρ1 := [some (.val (.str t)), some (.val (.int p)), some (.val (.int q)), some (.val (.int i)), some (.val (.int (p + (digs i).length : Nat))), x]) (S1 := []) (show sWhile 100000 wc_read_residue wb_read_residue _ _ = _ from e)]
    simp [mkTup, line_is, Rz.pure0, rfy]
  unfold digs at h ⊢
  by_cases i1 : i < 10
  · rw [if_pos i1] at h ⊢
    obtain ⟨_, _, h3⟩ := at_drop h
    exact ⟨i, r, 99999, none, i1, hi, h, rfl, h3⟩
  rw [if_neg i1] at h ⊢
  by_cases i2 : i < 100
  · rw [if_pos i2] at h ⊢
    obtain ⟨_, _, h3⟩ := at_drop h
    obtain ⟨_, _, h4⟩ := at_drop h3
    refine ⟨i / 10, _, 99998, some (.val (.int i)), by omega, by omega, h, ?_, h4⟩
    rw [rr_step 99999 ht h3 (by omega) (by omega) (by omega), show 10 * (i / 10) + i % 10 = i by omega]
    rfl
  rw [if_neg i2] at h ⊢
  obtain ⟨_, _, h3⟩ := at_drop h
  obtain ⟨_, _, h4⟩ := at_drop h3
  obtain ⟨_, _, h5⟩ := at_drop h4
  refine ⟨i / 100, _, 99997, some (.val (.int i)), by omega, by omega, h, ?_, h5⟩
  rw [rr_step 99999 ht h3 (by omega) (by omega) (by omega), rr_step 99998 ht h4 (by omega) (by omega) (by omega), show 10 * (10 * (i / 100) + i / 10 % 10) + i % 10 = i by omega]
  rfl
end TheText

namespace TheText
open PySem L2 MK
section
variable {t : Tx} {q : Int} {ks : List Nat} {lv tp dp : Nat} {F : List Ob}
theorem word_loop (ht : t.length ≤ 16777216) {s : Nat} {r : Tx} (hr : Aft r ∨ ∃ r', r = 40 :: r') : ∀ (u : Tx) (p n : Nat), t.drop p = u ++ r → (∀ c ∈ u, c ∈ tLet) → s ≤ p → p + u.length ≤ s + 6 → u.length < n →
    whileS n wc_FormulaReader_read_word wb_FormulaReader_read_word [some (.loc 0), some (.val (.int s))] (RSt t q p ks lv tp dp F) = .nx [some (.loc 0), some (.val (.int s))] (RSt t q (p + u.length) ks lv tp dp F)
  | [], p, n + 1, h, _, _, _, _ => by
    rw [whileS_succ]
    replace h : t.drop p = r := h
    cases r with
    | nil =>
      have h2 := at_end h
      have h2' : decide ((p : Int) < (t.length : Int)) = false := by simp; omega
      simp only [xAnd_eq, xB_eq, eBin_eq, eMk_eq, aCons_eq, aNil_eq, fld_pos, fld_text, Rz.bind_ok, fLen_str, line_is, if_pos ht, fInt_eq, if_true, h2', Rz.thn_ok]
      rfl
    | cons c r =>
      obtain ⟨h1, h2, h3⟩ := at_drop h
      have h2' : (p : Int) < (t.length : Int) := by omega
      have m : c ∉ tLet := by
        rcases hr with hr | ⟨r', e⟩
        · exact hr.dig.2.1
        · cases e; decide
      unfold tLet at m
      simp only [xAnd_eq, xB_eq, eBin_eq, eMk_eq, aCons_eq, aNil_eq, eC_eq, fld_pos, fld_text, Rz.bind_ok, fLen_str, line_is, if_pos ht, fInt_eq, if_true, decide_eq_true h2', fIx_str, atI_n, h1, fInS_eq, decide_eq_false m, Rz.thn_ok, show (false != false) = false from rfl]
      rfl
  | c :: u, p, n + 1, h, hu, hs, hl, hn => by
    rw [whileS_succ]
    obtain ⟨h1, h2, h3⟩ := at_drop h
    have h2' : (p : Int) < (t.length : Int) := by omega
    have m : c ∈ tLet := hu c (by simp)
    unfold tLet at m
    simp only [List.length_cons] at hl hn
    have e1 : ((p : Int) - (s : Int) == 6) = false := beq_eq_false_iff_ne.mpr (by omega)
    simp only [xAnd_eq, xB_eq, eBin_eq, eMk_eq, aCons_eq, aNil_eq, eC_eq, eVar_eq, List.getElem?_cons_zero, List.getElem?_cons_succ, fld_pos, fld_text, Rz.bind_ok, fLen_str, line_is, if_pos ht, fInt_eq, if_true, decide_eq_true h2', fIx_str, atI_n, h1, fInS_eq, decide_eq_true m, Rz.thn_ok, show (true != false) = true from rfl, wb_FormulaReader_read_word, sSeq_eq, sIf_eq, fEqq_int, e1, show (false != false) = false from rfl, sNil_eq, RS.seq_nx, aug_pos, RS.turn_nx]
    have ih := word_loop (s := s) ht hr u (p + 1) n h3 (fun c hc => hu c (by simp [hc])) (by omega) (by omega) (by omega)
    rw [show wb_FormulaReader_read_word = _ from rfl] at ih
    rw [ih, List.length_cons, show p + 1 + u.length = p + (u.length + 1) by omega]
theorem drop_len {u r : Tx} {p : Nat} (hp : p ≤ t.length) (h : t.drop p = u ++ r) : p + u.length ≤ t.length := by
  have := congrArg List.length h
  simp only [List.length_drop, List.length_append] at this
  omega
theorem drop_add {u r : Tx} {p : Nat} (h : t.drop p = u ++ r) : t.drop (p + u.length) = r := by
  rw [← List.drop_drop, h, List.drop_left]
theorem word_ok (ht : t.length ≤ 16777216) {p : Nat} (hp : p ≤ t.length) {u r : Tx} (h : t.drop p = u ++ r) (hr : Aft r ∨ ∃ r', r = 40 :: r') (hu : ∀ c ∈ u, c ∈ tLet) (hl : u.length ≤ 6) :
    G_FormulaReader_read_word [.loc 0] (RSt t q p ks lv tp dp F) = .ok (.val (.str u)) (RSt t q (p + u.length) ks lv tp dp F) := by
  simp only [G_FormulaReader_read_word, fnS, g_FormulaReader_read_word, List.length_cons, List.length_nil, if_true, List.map_cons, List.map_nil, List.replicate, List.cons_append, List.nil_append]
  rw [seq_nx (ρ1 := [some (.loc 0), some (.val (.int p))]) (S1 := RSt t q p ks lv tp dp F) (by
    simp only [sSet_eq, fld_pos, Rz.thn_ok, List.set_cons_succ, List.set_cons_zero])]
  rw [seq_nx (ρ1 := [some (.loc 0), some (.val (.int p))]) (S1 := RSt t q (p + u.length) ks lv tp dp F) (show sWhile 100000 wc_FormulaReader_read_word wb_FormulaReader_read_word _ _ = _ from word_loop ht hr u p 100000 h hu (Nat.le_refl _) (by omega) (by omega))]
  simp only [sRet_eq, eSl_eq, xoS_eq, eVar_eq, List.getElem?_cons_zero, List.getElem?_cons_succ, fld_pos, fld_text, Rz.bind_ok, fSl_str, line_is, if_pos ht, cut_mid t p u.length (drop_len hp h), h, List.take_left, Rz.thn_ok, RS.fin_ret]
end
end TheText

namespace TheText
open PySem L2 MK
section
variable {t : Tx} {q : Int} {p : Nat} {ks : List Nat} {lv tp dp : Nat} {F : List Ob}
theorem mkLoc_R {ms : List Mv} (h : ms.length ≤ 16777216) : mkLoc ms (RSt t q p ks lv tp dp F) = .ok (.loc (F.length + 2)) (RSt t q p ks lv tp dp (F ++ [.lst ms])) := by
  unfold mkLoc
  rw [line_is, if_pos h]; rfl
theorem map_snoc (ks : List Nat) (m : Nat) : (ks ++ [m]).map Mv.loc = ks.map Mv.loc ++ [.loc m] := by simp
theorem push_R {m : Nat} (h : ks.length < 16777216) : fAppend (.loc 1) [.loc m] (RSt t q p ks lv tp dp F) = .ok (.val .non) (RSt t q p (ks ++ [m]) lv tp dp F) := by
  show (if (ks.map Mv.loc).length < sizeLine then _ else _) = _
  rw [line_is, if_pos (by simpa using h)]
  unfold RSt
  rw [map_snoc]; rfl
theorem len_R : fLen [.loc 1] (RSt t q p ks lv tp dp F) = .ok (.val (.int ks.length)) (RSt t q p ks lv tp dp F) := by
  rw [fLen_loc, seqOf_loc (ms := ks.map .loc) rfl]; simp
theorem isLst_R : isLst (RSt t q p ks lv tp dp F) (.loc 1) = true := rfl
theorem head_dig : ∀ x ∈ vars, ∃ c u, x = c :: u ∧ c ∉ tDig ∧ c < 1114112 ∧ (∀ c ∈ x, c ∈ tLet) ∧ x.length ≤ 6 ∧ okT x = true := by
  have : ∀ x ∈ vars, x ≠ [] ∧ x.headD 0 ∉ tDig ∧ x.headD 0 < 1114112 ∧ (∀ c ∈ x, c ∈ tLet) ∧ x.length ≤ 6 ∧ okT x = true := by decide
  intro x hx
  obtain ⟨a, b, b', c, d, e⟩ := this x hx
  cases x with
  | nil => exact absurd rfl a
  | cons y u => exact ⟨y, u, rfl, b, b', c, d, e⟩
theorem head_op : ∀ x ∈ tNot :: ops, ∃ c u, x = c :: u ∧ c ∉ tDig ∧ c < 1114112 ∧ (∀ c ∈ x, c ∈ tLet) ∧ x.length ≤ 6 ∧ okT x = true ∧ (kd_OPERANDS.lookup x).isSome = true := by
  have : ∀ x ∈ tNot :: ops, x ≠ [] ∧ x.headD 0 ∉ tDig ∧ x.headD 0 < 1114112 ∧ (∀ c ∈ x, c ∈ tLet) ∧ x.length ≤ 6 ∧ okT x = true ∧ (kd_OPERANDS.lookup x).isSome = true := by decide
  intro x hx
  obtain ⟨a, b, b', c, d, e⟩ := this x hx
  cases x with
  | nil => exact absurd rfl a
  | cons y u => exact ⟨y, u, rfl, b, b', c, d, e⟩
theorem start_res (ht : t.length ≤ 16777216) {i : Nat} {q : Nat} {r : Tx} (h : t.drop p = digs i ++ r) (hr : Aft r) (hi : i < q) (hq : i < 1000) :
    G_FormulaReader_read_start [.loc 0] (RSt t q p ks lv tp dp F) = .ok (.val (.int i)) (RSt t q (p + (digs i).length) ks (lv + 1) tp dp F) := by
  obtain ⟨d, u, hd, hd1⟩ : ∃ d u, t.drop p = d :: u ∧ d ∈ tDig := by
    have : ∀ i, i < 1000 → ∃ d u, digs i = (48 + d) :: u ∧ d < 10 := by
      intro i hi
      unfold digs
      split
      · exact ⟨_, _, rfl, by omega⟩
      · split
        · exact ⟨_, _, rfl, by omega⟩
        · exact ⟨_, _, rfl, by omega⟩
    obtain ⟨d, u, e, hd⟩ := this i hq
    exact ⟨48 + d, u ++ r, by rw [h, e]; rfl, mem_dig hd⟩
  unfold tDig at hd1
  have e := residue_ok ht h hr hi hq
  simp only [G_FormulaReader_read_start, fnS, g_FormulaReader_read_start, List.length_cons, List.length_nil, if_true, List.map_cons, List.map_nil, List.replicate, List.cons_append, List.nil_append]
  rw [seq_ret (m := .val (.int i)) (S1 := RSt t q (p + (digs i).length) ks (lv + 1) tp dp F) (by
    simp only [sIf_eq, xB_eq, eBin_eq, eSl_eq, xoS_eq, eC_eq, fld_text, fld_pos, fld_mod, Rz.bind_ok, fAdd_int, fSl_str, line_is, if_pos ht, cut_at, hd, List.take_succ_cons, List.take_zero, fInS_eq, decide_eq_true hd1, show (true != false) = true from rfl, Rz.thn_ok, sSeq_eq, sAsg_eq, eMk_eq, aCons_eq, aNil_eq, callP3, e, liftP_ok, tgTup_eq, List.length_cons, List.length_nil, if_true, List.map_cons, List.map_nil, tgsCons_eq, tgsNil_eq, tgName_eq, RS.seq_nx, List.set_cons_succ, List.set_cons_zero, set_pos, RS.only_nx, aug_leaves, sRet_eq, eVar_eq, List.getElem?_cons_zero, List.getElem?_cons_succ])]
  rfl
theorem take_aft {r : Tx} (h : Aft r) : r.take 1 = [] ∨ r.take 1 = [44] ∨ r.take 1 = [41] := by
  rcases h with rfl | ⟨c, s, rfl, rfl | rfl⟩
  · exact .inl rfl
  · exact .inr (.inl rfl)
  · exact .inr (.inr rfl)
theorem start_var (ht : t.length ≤ 16777216) (hp : p ≤ t.length) {x : Tx} {r : Tx} (h : t.drop p = x ++ r) (hr : Aft r) (hx : x ∈ vars) :
    G_FormulaReader_read_start [.loc 0] (RSt t q p ks lv tp dp F) = .ok (.val (.str x)) (RSt t q (p + x.length) ks (lv + 1) tp dp F) := by
  obtain ⟨c, u, ex, h1, h1', h2, h3, h4⟩ := head_dig x hx
  have e := word_ok (q := q) (ks := ks) (lv := lv) (tp := tp) (dp := dp) (F := F) ht hp h (.inl hr) h2 h3
  have hd : t.drop p = c :: (u ++ r) := by rw [h, ex]; rfl
  have hd2 : t.drop (p + x.length) = r := drop_add h
  have xne : (x == []) = false := by rw [ex]; rfl
  unfold tDig at h1
  simp only [G_FormulaReader_read_start, fnS, g_FormulaReader_read_start, List.length_cons, List.length_nil, if_true, List.map_cons, List.map_nil, List.replicate, List.cons_append, List.nil_append]
  rw [seq_nx (ρ1 := [some (.loc 0), none, none]) (S1 := RSt t q p ks lv tp dp F) (by
    simp only [sIf_eq, xB_eq, eBin_eq, eSl_eq, xoS_eq, eC_eq, fld_text, fld_pos, Rz.bind_ok, fAdd_int, fSl_str, line_is, if_pos ht, cut_at, hd, List.take_succ_cons, List.take_zero, fInS_eq, decide_eq_false h1, show (false != false) = false from rfl, Rz.thn_ok, sNil_eq])]
  rw [seq_nx (ρ1 := [some (.loc 0), none, some (.val (.str x))]) (S1 := RSt t q (p + x.length) ks lv tp dp F) (by
    simp only [sSet_eq, eMeth_eq, eVar_eq, aNil_eq, List.getElem?_cons_zero, Rz.bind_ok]
    show ((if _ then _ else _ : Rz Mv)).thn _ _ = _
    rw [if_pos rfl]
    show ((G_FormulaReader_read_word [.loc 0] (RSt t q p ks lv tp dp F))).thn _ _ = _
    rw [e]; rfl)]
  have hx4 := fEqq_str false (x := x) (y := []) (RSt t q (p + x.length) ks lv tp dp F) h4 rfl
  rw [xne] at hx4
  rw [seq_ret (m := .val (.str x)) (S1 := RSt t q (p + x.length) ks (lv + 1) tp dp F) (by
    rcases take_aft hr with hr | hr | hr
    all_goals
      simp only [sIf_eq, xB_eq, xOr_eq, eBin_eq, eSl_eq, xoS_eq, eC_eq, eVar_eq, fld_text, fld_pos, Rz.bind_ok, fAdd_int, fSl_str, line_is, if_pos ht, cut_at, hd2, hr, fEqq_str true _ (show okT [] = true from rfl) (show okT [40] = true from rfl), fEqq_str true _ (show okT [44] = true from rfl) (show okT [40] = true from rfl), fEqq_str true _ (show okT [41] = true from rfl) (show okT [40] = true from rfl), fEqq_str false _ (show okT [] = true from rfl) (show okT [40] = true from rfl), fEqq_str false _ (show okT [44] = true from rfl) (show okT [40] = true from rfl), fEqq_str false _ (show okT [41] = true from rfl) (show okT [40] = true from rfl), hx4, show (([] : Tx) == [40]) = false from rfl, show (([44] : Tx) == [40]) = false from rfl, show (([41] : Tx) == [40]) = false from rfl, show (false != true) = true from rfl, show (false != false) = false from rfl, Rz.thn_ok, sSeq_eq, sNil_eq, RS.seq_nx, aug_leaves, sRet_eq, List.getElem?_cons_zero, List.getElem?_cons_succ])]
  rfl
theorem start_op (ht : t.length ≤ 16777216) (hp : p ≤ t.length) {x : Tx} {r : Tx} (h : t.drop p = x ++ 40 :: r) (hx : x ∈ tNot :: ops) (hk : ks.length < 1000) :
    G_FormulaReader_read_start [.loc 0] (RSt t q p ks lv tp dp F) = .ok (.val .non) (RSt t q (p + x.length + 1) (ks ++ [F.length + 2]) lv (tp + 1) (max dp (ks.length + 1)) (F ++ [.lst [.val (.str x)]])) := by
  obtain ⟨c, u, ex, h1, h1', h2, h3, h4, h5⟩ := head_op x hx
  have e := word_ok (q := q) (ks := ks) (lv := lv) (tp := tp) (dp := dp) (F := F) ht hp h (.inr ⟨r, rfl⟩) h2 h3
  have hd : t.drop p = c :: (u ++ 40 :: r) := by rw [h, ex]; rfl
  have hd2 : t.drop (p + x.length) = 40 :: r := drop_add h
  unfold tDig at h1
  simp only [G_FormulaReader_read_start, fnS, g_FormulaReader_read_start, List.length_cons, List.length_nil, if_true, List.map_cons, List.map_nil, List.replicate, List.cons_append, List.nil_append]
  rw [seq_nx (ρ1 := [some (.loc 0), none, none]) (S1 := RSt t q p ks lv tp dp F) (by
    simp only [sIf_eq, xB_eq, eBin_eq, eSl_eq, xoS_eq, eC_eq, fld_text, fld_pos, Rz.bind_ok, fAdd_int, fSl_str, line_is, if_pos ht, cut_at, hd, List.take_succ_cons, List.take_zero, fInS_eq, decide_eq_false h1, show (false != false) = false from rfl, Rz.thn_ok, sNil_eq])]
  rw [seq_nx (ρ1 := [some (.loc 0), none, some (.val (.str x))]) (S1 := RSt t q (p + x.length) ks lv tp dp F) (by
    simp only [sSet_eq, eMeth_eq, eVar_eq, aNil_eq, List.getElem?_cons_zero, Rz.bind_ok]
    show ((if _ then _ else _ : Rz Mv)).thn _ _ = _
    rw [if_pos rfl]
    show ((G_FormulaReader_read_word [.loc 0] (RSt t q p ks lv tp dp F))).thn _ _ = _
    rw [e]; rfl)]
  rw [seq_nx (ρ1 := [some (.loc 0), none, some (.val (.str x))]) (S1 := RSt t q (p + x.length) ks lv tp dp F) (by
    simp only [sIf_eq, xB_eq, xOr_eq, eBin_eq, eSl_eq, xoS_eq, eC_eq, eVar_eq, eInKD_eq, fld_text, fld_pos, Rz.bind_ok, fAdd_int, fSl_str, line_is, if_pos ht, cut_at, hd2, List.take_succ_cons, List.take_zero, fEqq_str true _ (show okT [40] = true from rfl) (show okT [40] = true from rfl), show (([40] : Tx) == [40]) = true from rfl, show (true != true) = false from rfl, h5, Rz.thn_ok, sNil_eq, List.getElem?_cons_zero, List.getElem?_cons_succ])]
  rw [seq_nx (aug_pos ..)]
  rw [seq_nx (ρ1 := [some (.loc 0), none, some (.val (.str x))]) (S1 := RSt t q (p + x.length + 1) (ks ++ [F.length + 2]) lv tp dp (F ++ [.lst [.val (.str x)]])) (by
    simp only [sExpr_eq, eBm_eq, fld_stack, Rz.bind_ok, isLst_R, if_true, aCons_eq, aNil_eq, eMk_eq, eVar_eq, List.getElem?_cons_zero, List.getElem?_cons_succ, mkLoc_R (show [Mv.val (.str x)].length ≤ 16777216 by simp), push_R (show ks.length < 16777216 by omega), Rz.thn_ok])]
  rw [seq_nx (aug_tuples ..)]
  have hmax : (if ((ks ++ [F.length + 2]).length : Int) > (dp : Int) then ((ks ++ [F.length + 2]).length : Int) else (dp : Int)) = ((max dp (ks.length + 1) : Nat) : Int) := by
    simp only [List.length_append, List.length_cons, List.length_nil]
    split <;> omega
  rw [seq_nx (set_depth (p' := max dp (ks.length + 1)) (hf := by
    simp only [eMk_eq, aCons_eq, aNil_eq, fld_depth, fld_stack, Rz.bind_ok, len_R]
    exact congrArg (fun z => Rz.ok (Mv.val (Dv.int z)) _) hmax))]
  rfl
end
end TheText

namespace TheText
open PySem L2 MK
def Good (d : Dv) : Prop := ∃ x, toPy d = some x ∧ x.canLay0 = true ∧ x.depth ≤ 60
def Fok (G : List Ob) (k : Nat) : Prop := ∃ (j : Nat) (fr : List Dv), k = j + 2 ∧ G[j]? = some (.lst (fr.map .val)) ∧ ∀ d ∈ fr, Good d
theorem goods : ∀ {fr : List Dv}, (∀ d ∈ fr, Good d) → ∃ xs, toPys fr = some xs ∧ PyData.canLayAll0 xs = true ∧ PyData.depthAll xs ≤ 60
  | [], _ => ⟨[], rfl, rfl, by decide⟩
  | d :: fr, h => by
    obtain ⟨x, a, b, c⟩ := h d (by simp)
    obtain ⟨xs, a', b', c'⟩ := goods (fr := fr) fun d hd => h d (by simp [hd])
    refine ⟨x :: xs, by simp [toPys, a, a'], by simp [PyData.canLayAll0, b, b'], ?_⟩
    simp only [PyData.depthAll]; omega
theorem mapM_val (n : Nat) (S : Sto) : ∀ fr : List Dv, (fr.map Mv.val).mapM (rfy (n + 1) S) = some fr
  | [] => rfl
  | d :: fr => by
    rw [List.map_cons, List.mapM_cons, mapM_val n S fr]; rfl
section
variable {t : Tx} {q : Int} {p : Nat} {ks : List Nat} {lv tp dp : Nat} {F F0 g : List Ob} {m : Nat}
theorem stack_rf : ∀ (js : List Nat), (∀ k ∈ js, Fok F k) → ∃ ds xs, (js.map Mv.loc).mapM (rfy 7 (RSt t q p ks lv tp dp F)) = some ds ∧ ds.length = js.length ∧ toPys ds = some xs ∧ PyData.canLayAll0 xs = true ∧ PyData.depthAll xs ≤ 61
  | [], _ => ⟨[], [], rfl, rfl, rfl, rfl, by decide⟩
  | k :: js, h => by
    obtain ⟨ds, xs, a, b, c, d, e⟩ := stack_rf js fun k hk => h k (by simp [hk])
    obtain ⟨j, fr, rfl, hj, hf⟩ := h k (by simp)
    obtain ⟨ys, a', b', c'⟩ := goods hf
    have hr : rfy 7 (RSt t q p ks lv tp dp F) (.loc (j + 2)) = some (.lst fr) := by
      have : (RSt t q p ks lv tp dp F)[j + 2]? = some (.lst (fr.map .val)) := hj
      unfold rfy
      rw [this]
      show ((fr.map Mv.val).mapM (rfy 6 _)).map Dv.lst = _
      rw [mapM_val 5]; rfl
    refine ⟨.lst fr :: ds, .list ys :: xs, ?_, by simp [b], ?_, ?_, ?_⟩
    · rw [List.map_cons, List.mapM_cons, hr, a]; rfl
    · simp [toPys, toPy, a', c]
    · simp [PyData.canLayAll0, PyData.canLay0, b', d]
    · simp only [PyData.depthAll, PyData.depth]; omega
theorem ne_stack (h : ∀ k ∈ ks, Fok F k) : fNe (.loc 1) (.val (.lst [])) (RSt t q p ks lv tp dp F) = .ok (.val (.bl (!ks.isEmpty))) (RSt t q p ks lv tp dp F) := by
  obtain ⟨ds, xs, a, b, c, d, e⟩ := stack_rf (t := t) (q := q) (p := p) (ks := ks) (lv := lv) (tp := tp) (dp := dp) ks h
  have hr : rfy 8 (RSt t q p ks lv tp dp F) (.loc 1) = some (.lst ds) := by
    unfold rfy
    show ((ks.map Mv.loc).mapM (rfy 7 _)).map Dv.lst = _
    rw [a]; rfl
  have hq : eqD (.lst ds) (.lst []) = some ks.isEmpty := by
    unfold eqD
    simp only [toPy, c, toPys, Option.map_some, Option.bind_some]
    rw [if_pos]
    · cases ks with
      | nil =>
        cases ds with
        | nil => cases c; rfl
        | cons _ _ => simp at b
      | cons _ _ =>
        cases ds with
        | nil => simp at b
        | cons d' ds' =>
          cases xs with
          | nil =>
            exfalso
            simp only [toPys] at c
            cases q1 : toPy d' with
            | none => rw [q1] at c; simp at c
            | some z =>
              cases q2 : toPys ds' with
              | none => rw [q1, q2] at c; simp at c
              | some z' => rw [q1, q2] at c; simp at c
          | cons _ _ => rfl
    · simp only [SeqAt.shaped, PyData.canLay0, d, PyData.depth, PyData.canLayAll0, PyData.depthAll, Bool.true_and, Bool.and_true, decide_eq_true_eq]
      simp; omega
  show (match rfy 8 _ _, some (Dv.lst []) with | some d, some e => _ | _, _ => _) = _
  rw [hr]
  show (match eqD (.lst ds) (.lst []) with | some b => _ | none => _) = _
  rw [hq]
  cases ks <;> rfl
theorem frame_at {ms : List Mv} : seqOf (RSt t q p ks lv tp dp (F0 ++ .lst ms :: g)) (.loc (F0.length + 2)) = some (.l, ms) := seqOf_loc (by
  show (F0 ++ .lst ms :: g)[F0.length]? = _
  simp)
theorem append_R {ms : List Mv} {y : Mv} (h : ms.length < 16777216) : fAppend (.loc (F0.length + 2)) [y] (RSt t q p ks lv tp dp (F0 ++ .lst ms :: g)) = .ok (.val .non) (RSt t q p ks lv tp dp (F0 ++ .lst (ms ++ [y]) :: g)) := by
  have : (RSt t q p ks lv tp dp (F0 ++ .lst ms :: g))[F0.length + 2]? = some (.lst ms) := by
    show (F0 ++ .lst ms :: g)[F0.length]? = _
    simp
  unfold fAppend
  simp only [this]
  rw [line_is, if_pos h]
  refine congrArg (Rz.ok _) ?_
  show _ :: _ :: (F0 ++ .lst ms :: g).set F0.length _ = _ :: _ :: _
  simp
theorem pop_R : fPop (.loc 1) [] (RSt t q p (ks ++ [m]) lv tp dp F) = .ok (.loc m) (RSt t q p ks lv tp dp F) := by
  unfold fPop
  have : (RSt t q p (ks ++ [m]) lv tp dp F)[1]? = some (.lst ((ks ++ [m]).map .loc)) := rfl
  simp only [this, map_snoc]
  have e : (ks.map Mv.loc ++ [Mv.loc m])[(ks.map Mv.loc ++ [Mv.loc m]).length - 1]? = some (.loc m) := by simp
  rw [e]
  show Rz.ok _ _ = _
  refine congrArg (Rz.ok _) ?_
  show _ :: Ob.lst _ :: F = _ :: _ :: F
  rw [List.dropLast_concat]
theorem stack_seq : seqOf (RSt t q p ks lv tp dp F) (.loc 1) = some (.l, ks.map .loc) := seqOf_loc rfl
theorem top_at : atI ((ks ++ [m]).map Mv.loc) (-1) = some (.loc m) := by
  rw [map_snoc]
  unfold atI ixN
  rw [if_neg (by decide), if_pos (by simp; omega)]
  simp only [Option.bind_some]
  rw [show (-1 + ((ks.map Mv.loc ++ [Mv.loc m]).length : Int)).toNat = ks.length by simp; omega]
  simp
theorem tupOf_R {fr : List Dv} : fTupOf [.loc (F0.length + 2)] (RSt t q p ks lv tp dp (F0 ++ .lst (fr.map .val) :: g)) = .ok (.val (.tup fr)) (RSt t q p ks lv tp dp (F0 ++ .lst (fr.map .val) :: g)) := by
  show (match seqOf _ _ with | some (_, ms) => _ | none => _) = _
  rw [frame_at]
  show (match vals (fr.map .val) with | some ds => _ | none => _) = _
  rw [vals_map]
theorem lt_snoc (ks : List Nat) (m : Nat) : (!(ks ++ [m]).isEmpty) = true := by simp
theorem finA {v : Dv} {x y : Option Mv} {w : Tx} {tl : List Dv} {n : Nat} {r : Tx} (f : Nat) (ht : t.length ≤ 16777216) (hk : ∀ k ∈ ks ++ [F0.length + 2], Fok (F0 ++ .lst ((.str w :: tl).map .val) :: g) k) (hn : kd_OPERANDS.lookup w = some (n : Int)) (hl : tl.length + 2 ≤ n) (hl2 : n < 1000) (h : t.drop p = 44 :: r) :
    whileS (f + 1) wc_FormulaReader_finish wb_FormulaReader_finish [some (.loc 0), some (.val v), x, y] (RSt t q p (ks ++ [F0.length + 2]) lv tp dp (F0 ++ .lst ((.str w :: tl).map .val) :: g)) =
      .ret (.val .non) (RSt t q (p + 1) (ks ++ [F0.length + 2]) lv tp dp (F0 ++ .lst ((.str w :: (tl ++ [v])).map .val) :: g)) := by
  have e1 : (((.str w :: tl).map Mv.val) ++ [.val v]) = (.str w :: (tl ++ [v])).map .val := by simp
  have e2 : decide ((((.str w :: (tl ++ [v])).map Mv.val).length : Int) ≤ (n : Int)) = true := by simp; omega
  have e3 : ((.str w :: tl).map Mv.val).length < 16777216 := by simp; omega
  have e4 : atI ((.str w :: (tl ++ [v])).map Mv.val) 0 = some (.val (.str w)) := by
    rw [show (0 : Int) = ((0 : Nat) : Int) from rfl, atI_n]; rfl
  rw [whileS_succ]
  simp only [xB_eq, eBin_eq, eMk_eq, aNil_eq, fld_stack, Rz.bind_ok, mkLst_nil, ne_stack hk, lt_snoc, Rz.thn_ok, wb_FormulaReader_finish, sSeq_eq, sSet_eq, eUn_eq, eC_eq, fNeg_eq, stack_seq, top_at, RS.seq_nx, List.set_cons_succ, List.set_cons_zero, sExpr_eq, eBm_eq, eVar_eq, List.getElem?_cons_zero, List.getElem?_cons_succ, show isLst (RSt t q p (ks ++ [F0.length + 2]) lv tp dp (F0 ++ .lst ((.str w :: tl).map .val) :: g)) (.loc (F0.length + 2)) = true by unfold isLst; simp [RSt], if_true, aCons_eq, append_R e3, e1, eIf_eq, fLen_loc, frame_at, fIx_loc, e4, eIxKD_eq, hn, fInt_eq, e2, sIf_eq, eSl_eq, xoS_eq, fld_text, fld_pos, fAdd_int, fSl_str, line_is, if_pos ht, cut_at, h, List.take_succ_cons, List.take_zero, fEqq_str true _ (show okT [44] = true from rfl) (show okT [44] = true from rfl), fEqq_str false _ (show okT [44] = true from rfl) (show okT [44] = true from rfl), show (([44] : Tx) == [44]) = true from rfl, show (true != true) = false from rfl, show (true != false) = true from rfl, sNil_eq, aug_pos, sRet_eq, RS.seq_ret, RS.turn_ret]
theorem finB {v : Dv} {x y : Option Mv} {w : Tx} {tl : List Dv} {n : Nat} {r : Tx} (f : Nat) (ht : t.length ≤ 16777216) (hk : ∀ k ∈ ks ++ [F0.length + 2], Fok (F0 ++ .lst ((.str w :: tl).map .val) :: g) k) (hn : kd_OPERANDS.lookup w = some (n : Int)) (hl : n < tl.length + 2) (hl2 : tl.length < 1000) (h : t.drop p = 41 :: r) :
    whileS (f + 1) wc_FormulaReader_finish wb_FormulaReader_finish [some (.loc 0), some (.val v), x, y] (RSt t q p (ks ++ [F0.length + 2]) lv tp dp (F0 ++ .lst ((.str w :: tl).map .val) :: g)) =
      whileS f wc_FormulaReader_finish wb_FormulaReader_finish [some (.loc 0), some (.val (.tup (.str w :: (tl ++ [v])))), some (.loc (F0.length + 2)), some (.val (.str [41]))] (RSt t q (p + 1) ks lv tp dp (F0 ++ .lst ((.str w :: (tl ++ [v])).map .val) :: g)) := by
  have e1 : (((.str w :: tl).map Mv.val) ++ [.val v]) = (.str w :: (tl ++ [v])).map .val := by simp
  have e2 : decide ((((.str w :: (tl ++ [v])).map Mv.val).length : Int) ≤ (n : Int)) = false := by simp; omega
  have e3 : ((.str w :: tl).map Mv.val).length < 16777216 := by simp; omega
  have e4 : atI ((.str w :: (tl ++ [v])).map Mv.val) 0 = some (.val (.str w)) := by
    rw [show (0 : Int) = ((0 : Nat) : Int) from rfl, atI_n]; rfl
  rw [whileS_succ]
  simp only [xB_eq, eBin_eq, eMk_eq, aNil_eq, fld_stack, Rz.bind_ok, mkLst_nil, ne_stack hk, lt_snoc, Rz.thn_ok, wb_FormulaReader_finish, sSeq_eq, sSet_eq, eUn_eq, eC_eq, fNeg_eq, stack_seq, top_at, RS.seq_nx, List.set_cons_succ, List.set_cons_zero, sExpr_eq, eBm_eq, eBmN_eq, eVar_eq, List.getElem?_cons_zero, List.getElem?_cons_succ, show isLst (RSt t q p (ks ++ [F0.length + 2]) lv tp dp (F0 ++ .lst ((.str w :: tl).map .val) :: g)) (.loc (F0.length + 2)) = true by unfold isLst; simp [RSt], if_true, aCons_eq, append_R e3, e1, eIf_eq, fLen_loc, frame_at, fIx_loc, e4, eIxKD_eq, hn, fInt_eq, e2, sIf_eq, eSl_eq, xoS_eq, fld_text, fld_pos, fAdd_int, fSl_str, line_is, if_pos ht, cut_at, h, List.take_succ_cons, List.take_zero, fEqq_str true _ (show okT [41] = true from rfl) (show okT [41] = true from rfl), fEqq_str false _ (show okT [41] = true from rfl) (show okT [44] = true from rfl), show (([41] : Tx) == [41]) = true from rfl, show (([41] : Tx) == [44]) = false from rfl, show (false != false) = false from rfl, show (true != true) = false from rfl, show (true != false) = true from rfl, sNil_eq, aug_pos, isLst_R, pop_R, tupOf_R, RS.turn_nx]
theorem finD {v : Dv} {x y : Option Mv} (f : Nat) : whileS (f + 1) wc_FormulaReader_finish wb_FormulaReader_finish [some (.loc 0), some (.val v), x, y] (RSt t q p [] lv tp dp F) = .nx [some (.loc 0), some (.val v), x, y] (RSt t q p [] lv tp dp F) := by
  rw [whileS_succ]
  simp only [xB_eq, eBin_eq, eMk_eq, aNil_eq, fld_stack, Rz.bind_ok, mkLst_nil, ne_stack (ks := []) (by simp), Rz.thn_ok]
  rfl
end
end TheText

namespace MK
open PySem L2
theorem whileS_mono {c : XT} {g : XS} : ∀ (n : Nat) (ρ : List (Option Mv)) (S : Sto) (r : RS), whileS n c g ρ S = r → r ≠ .stuck → whileS (n + 1) c g ρ S = r
  | 0, ρ, S, r, h, hr => absurd h.symm hr
  | n + 1, ρ, S, r, h, hr => by
    have e1 : whileS (n + 1) c g ρ S = (c ρ S).thn ρ fun b S1 => match b with
      | true => (g ρ S1).turn fun ρ2 S2 => whileS n c g ρ2 S2
      | false => .nx ρ S1 := rfl
    have e2 : whileS (n + 1 + 1) c g ρ S = (c ρ S).thn ρ fun b S1 => match b with
      | true => (g ρ S1).turn fun ρ2 S2 => whileS (n + 1) c g ρ2 S2
      | false => .nx ρ S1 := rfl
    rw [e1] at h
    rw [e2]
    cases hc : c ρ S with
    | stuck => rw [hc] at h; exact h
    | exn e S1 => rw [hc] at h; exact h
    | ok b S1 =>
      rw [hc] at h
      cases b with
      | false => exact h
      | true =>
        simp only [Rz.thn_ok] at h ⊢
        cases hg : g ρ S1 with
        | nx ρ2 S2 => rw [hg] at h; exact whileS_mono n ρ2 S2 r h hr
        | cnt ρ2 S2 => rw [hg] at h; exact whileS_mono n ρ2 S2 r h hr
        | brk ρ2 S2 => rw [hg] at h; exact h
        | ret m S2 => rw [hg] at h; exact h
        | exn e ρ2 S2 => rw [hg] at h; exact h
        | stuck => rw [hg] at h; exact h
end MK
namespace TheText
open PySem L2 MK
noncomputable abbrev finT : XS := (sSeq (sIf ((xB ((eBin fNe ((eFld "FormulaReader" "position" (eVar 0))) ((eMk fLen (aCons ((eFld "FormulaReader" "text" (eVar 0))) (aNil)))))))) (sNever) (sNil))
    (sRet (eVar 1)))
noncomputable def finR (f : Nat) (v : Dv) (x y : Option Mv) (S : Sto) : Rz Mv := ((sSeq (sWhile f wc_FormulaReader_finish wb_FormulaReader_finish) finT) [some (.loc 0), some (.val v), x, y] S).fin
theorem finR_mono (f : Nat) {v : Dv} {x y : Option Mv} {S : Sto} {r : Rz Mv} (h : finR f v x y S = r) (hr : r ≠ .stuck) : finR (f + 1) v x y S = r := by
  unfold finR at h ⊢
  rw [sSeq_eq, sWhile_eq] at h ⊢
  have : whileS (f + 1) wc_FormulaReader_finish wb_FormulaReader_finish [some (.loc 0), some (.val v), x, y] S = whileS f wc_FormulaReader_finish wb_FormulaReader_finish [some (.loc 0), some (.val v), x, y] S := by
    refine whileS_mono f _ _ _ rfl fun q => ?_
    rw [q] at h
    exact hr h.symm
  rw [this]; exact h
theorem finR_mono' {f f' : Nat} (hf : f ≤ f') {v : Dv} {x y : Option Mv} {S : Sto} {r : Rz Mv} (h : finR f v x y S = r) (hr : r ≠ .stuck) : finR f' v x y S = r := by
  induction hf with
  | refl => exact h
  | step _ ih => exact finR_mono _ ih hr
noncomputable def KP (t : Tx) (q : Int) (n : Nat) (r : Rz Mv) (x4 : Option Mv) : RS := match r with
  | .ok m S => whileS n wc_parse_formula wb_parse_formula [some (.val (.str t)), some (.val (.int q)), some (.loc 0), some m, x4] S
  | .exn e S => .exn e [some (.val (.str t)), some (.val (.int q)), some (.loc 0), some (.val .non), x4] S
  | .stuck => .stuck
section
variable {t : Tx} {q : Int} {p : Nat} {ks : List Nat} {lv tp dp : Nat} {F F0 g : List Ob} {m : Nat}
theorem loop_push {x4 : Option Mv} {p' : Nat} {ks' : List Nat} {lv' tp' dp' : Nat} {F' : List Ob} (n : Nat) (h : G_FormulaReader_read_start [.loc 0] (RSt t q p ks lv tp dp F) = .ok (.val .non) (RSt t q p' ks' lv' tp' dp' F')) :
    whileS (n + 1) wc_parse_formula wb_parse_formula [some (.val (.str t)), some (.val (.int q)), some (.loc 0), some (.val .non), x4] (RSt t q p ks lv tp dp F) = whileS n wc_parse_formula wb_parse_formula [some (.val (.str t)), some (.val (.int q)), some (.loc 0), some (.val .non), some (.val .non)] (RSt t q p' ks' lv' tp' dp' F') := by
  rw [whileS_succ]
  simp only [xB_eq, eBin_eq, eVar_eq, eC_eq, List.getElem?_cons_zero, List.getElem?_cons_succ, Rz.bind_ok, show ∀ S, fIsN false (.val .non) (.val .non) S = .ok (.val (.bl true)) S from fun _ => rfl, Rz.thn_ok, wb_parse_formula]
  rw [seq_nx (ρ1 := [some (.val (.str t)), some (.val (.int q)), some (.loc 0), some (.val .non), some (.val .non)]) (S1 := RSt t q p' ks' lv' tp' dp' F') (by
    simp only [sSet_eq, eMeth_eq, eVar_eq, aNil_eq, List.getElem?_cons_zero, List.getElem?_cons_succ, Rz.bind_ok]
    show ((if _ then _ else _ : Rz Mv)).thn _ _ = _
    rw [if_pos rfl]
    show ((G_FormulaReader_read_start [.loc 0] (RSt t q p ks lv tp dp F))).thn _ _ = _
    rw [h]; rfl)]
  simp only [sIf_eq, xB_eq, eBin_eq, eVar_eq, eC_eq, List.getElem?_cons_zero, List.getElem?_cons_succ, Rz.bind_ok, show ∀ S, fIsN true (.val .non) (.val .non) S = .ok (.val (.bl false)) S from fun _ => rfl, Rz.thn_ok, sNil_eq, RS.turn_nx]
theorem loop_leaf {x4 : Option Mv} {v : Dv} (hv : ∀ S, fIsN true (.val v) (.val .non) S = .ok (.val (.bl true)) S) {p' : Nat} {ks' : List Nat} {lv' tp' dp' : Nat} {F' : List Ob} (n : Nat) (h : G_FormulaReader_read_start [.loc 0] (RSt t q p ks lv tp dp F) = .ok (.val v) (RSt t q p' ks' lv' tp' dp' F')) :
    whileS (n + 1) wc_parse_formula wb_parse_formula [some (.val (.str t)), some (.val (.int q)), some (.loc 0), some (.val .non), x4] (RSt t q p ks lv tp dp F) = KP t q n (finR 100000 v none none (RSt t q p' ks' lv' tp' dp' F')) (some (.val v)) := by
  rw [whileS_succ]
  simp only [xB_eq, eBin_eq, eVar_eq, eC_eq, List.getElem?_cons_zero, List.getElem?_cons_succ, Rz.bind_ok, show ∀ S, fIsN false (.val .non) (.val .non) S = .ok (.val (.bl true)) S from fun _ => rfl, Rz.thn_ok, wb_parse_formula]
  rw [seq_nx (ρ1 := [some (.val (.str t)), some (.val (.int q)), some (.loc 0), some (.val .non), some (.val v)]) (S1 := RSt t q p' ks' lv' tp' dp' F') (by
    simp only [sSet_eq, eMeth_eq, eVar_eq, aNil_eq, List.getElem?_cons_zero, List.getElem?_cons_succ, Rz.bind_ok]
    show ((if _ then _ else _ : Rz Mv)).thn _ _ = _
    rw [if_pos rfl]
    show ((G_FormulaReader_read_start [.loc 0] (RSt t q p ks lv tp dp F))).thn _ _ = _
    rw [h]; rfl)]
  simp only [sIf_eq, xB_eq, eBin_eq, eVar_eq, eC_eq, aCons_eq, aNil_eq, List.getElem?_cons_zero, List.getElem?_cons_succ, Rz.bind_ok, hv, Rz.thn_ok, sSet_eq, eMeth_eq]
  show (((if _ then _ else _ : Rz Mv)).thn _ _).turn _ = _
  rw [if_pos rfl]
  show ((finR 100000 v none none (RSt t q p' ks' lv' tp' dp' F')).thn _ _).turn _ = _
  cases finR 100000 v none none (RSt t q p' ks' lv' tp' dp' F') with
  | ok m S => rfl
  | exn e S => rfl
  | stuck => rfl
def gar : Fm → List Ob
  | .res _ => []
  | .var _ => []
  | .neg p => .lst ([.str tNot, toD p].map .val) :: gar p
  | .op w p q => .lst ([.str w, toD p, toD q].map .val) :: (gar p ++ gar q)
def dEnd (dp k : Nat) : Fm → Nat
  | .res _ => dp
  | .var _ => dp
  | .neg p => dEnd (max dp (k + 1)) (k + 1) p
  | .op _ p q => dEnd (dEnd (max dp (k + 1)) (k + 1) p) (k + 1) q
theorem dEnd_le : ∀ (p : Fm) (dp k : Nat), dEnd dp k p ≤ max dp (k + dpt p)
  | .res _, dp, k => by simp only [dEnd]; omega
  | .var _, dp, k => by simp only [dEnd]; omega
  | .neg p, dp, k => by
    have := dEnd_le p (max dp (k + 1)) (k + 1)
    simp only [dEnd, dpt]; omega
  | .op _ p r, dp, k => by
    have h1 := dEnd_le p (max dp (k + 1)) (k + 1)
    have h2 := dEnd_le r (dEnd (max dp (k + 1)) (k + 1) p) (k + 1)
    simp only [dEnd, dpt]; omega
theorem good_toD {q : Int} : ∀ (p : Fm), Vd q p → ∃ x, toPy (toD p) = some x ∧ x.canLay0 = true ∧ x.depth = dpt p
  | .res i, _ => ⟨.int i, rfl, by simp [PyData.canLay0], by simp [PyData.depth, dpt]⟩
  | .var x, v => ⟨.str (sT x), rfl, by
      obtain ⟨_, _, _, _, _, _, _, h⟩ := head_dig x v
      simp only [PyData.canLay0]; exact okT_strOk h, by simp [PyData.depth, dpt]⟩
  | .neg p, v => by
    obtain ⟨x, a, b, c⟩ := good_toD p v
    exact ⟨.tuple [.str (sT tNot), x], by simp [toD, toPy, toPys, a], by simp only [PyData.canLay0, PyData.canLayAll0, b, okT_strOk (show okT tNot = true from rfl)]; rfl, by simp [PyData.depth, PyData.depthAll, c, dpt]⟩
  | .op w p r, v => by
    obtain ⟨x, a, b, c⟩ := good_toD p v.2.1
    obtain ⟨y, a', b', c'⟩ := good_toD r v.2.2
    obtain ⟨_, _, _, _, _, _, _, h, _⟩ := head_op w (List.mem_cons_of_mem _ v.1)
    exact ⟨.tuple [.str (sT w), x, y], by simp [toD, toPy, toPys, a, a'], by simp only [PyData.canLay0, PyData.canLayAll0, b, b', okT_strOk h]; rfl, by simp [PyData.depth, PyData.depthAll, c, c', dpt]⟩
theorem good_D {q : Int} {p : Fm} (v : Vd q p) (h : dpt p ≤ 60) : Good (toD p) := by
  obtain ⟨x, a, b, c⟩ := good_toD p v
  exact ⟨x, a, b, by omega⟩
theorem good_w {w : Tx} (h : w ∈ tNot :: ops) : Good (.str w) := by
  obtain ⟨_, _, _, _, _, _, _, h, _⟩ := head_op w h
  exact ⟨.str (sT w), rfl, by simp only [PyData.canLay0]; exact okT_strOk h, by simp [PyData.depth]⟩
theorem fok_app {k : Nat} (G : List Ob) (h : Fok F k) : Fok (F ++ G) k := by
  obtain ⟨j, fr, e, hj, hf⟩ := h
  refine ⟨j, fr, e, ?_, hf⟩
  have : j < F.length := by
    rcases Nat.lt_or_ge j F.length with q | q
    · exact q
    · rw [List.getElem?_eq_none q] at hj; cases hj
  rw [List.getElem?_append_left this]; exact hj
theorem fok_new {fr : List Dv} (G : List Ob) (h : ∀ d ∈ fr, Good d) : Fok (F ++ .lst (fr.map .val) :: G) (F.length + 2) := ⟨F.length, fr, rfl, by simp, h⟩
theorem fok_snoc {fr : List Dv} (G : List Ob) (hk : ∀ k ∈ ks, Fok F k) (h : ∀ d ∈ fr, Good d) : ∀ k ∈ ks ++ [F.length + 2], Fok (F ++ .lst (fr.map .val) :: G) k := by
  intro k hm
  rcases List.mem_append.mp hm with hm | hm
  · exact fok_app _ (hk k hm)
  · rw [List.mem_singleton.mp hm]; exact fok_new G h
theorem isN_int (i : Int) : ∀ S, fIsN true (.val (.int i)) (.val .non) S = .ok (.val (.bl true)) S := fun _ => rfl
theorem isN_str (i : Tx) : ∀ S, fIsN true (.val (.str i)) (.val .non) S = .ok (.val (.bl true)) S := fun _ => rfl
theorem ops2 : ∀ w ∈ ops, kd_OPERANDS.lookup w = some ((2 : Nat) : Int) := by decide
theorem not1 : kd_OPERANDS.lookup tNot = some ((1 : Nat) : Int) := by decide
theorem drop_op {w r : Tx} (h : t.drop p = w ++ 40 :: r) : t.drop (p + w.length + 1) = r ∧ p + w.length + 1 ≤ t.length := by
  obtain ⟨_, a, b⟩ := at_drop (drop_add h)
  exact ⟨b, a⟩
theorem parse_claim (ht : t.length ≤ 16777216) (hq : q ≤ 1000) {Q : RS → Prop} (hQ : ¬ Q .stuck) : ∀ (φ : Fm) (p : Nat) (ks : List Nat) (lv tp dp : Nat) (F : List Ob) (r : Tx) (x4 : Option Mv) (n f : Nat),
    Vd q φ → t.drop p = fmt φ ++ r → Aft r → p ≤ t.length → (∀ k ∈ ks, Fok F k) → ks.length + dpt φ ≤ 50 → f + dpt φ ≤ 100000 →
    (∀ x y x4', Q (KP t q n (finR f (toD φ) x y (RSt t q (p + (fmt φ).length) ks (lv + lvs φ) (tp + tps φ) (dEnd dp ks.length φ) (F ++ gar φ))) x4')) →
    Q (whileS (n + (lvs φ + tps φ)) wc_parse_formula wb_parse_formula [some (.val (.str t)), some (.val (.int q)), some (.loc 0), some (.val .non), x4] (RSt t q p ks lv tp dp F))
  | .res i, p, ks, lv, tp, dp, F, r, x4, n, f, v, h, hr, hp, hk, hd, hf, H => by
    obtain ⟨v0, v1⟩ := v
    obtain ⟨i, rfl⟩ : ∃ k : Nat, i = (k : Int) := ⟨i.toNat, by omega⟩
    obtain ⟨q, rfl⟩ : ∃ k : Nat, q = (k : Int) := ⟨q.toNat, by omega⟩
    have e : fmt (.res (i : Int)) = digs i := dec_digs (by omega) (by omega)
    rw [e] at h H
    have hs := start_res (q := q) (ks := ks) (lv := lv) (tp := tp) (dp := dp) (F := F) ht h hr (by omega) (by omega)
    simp only [lvs, tps]
    rw [loop_leaf (isN_int i) n hs]
    have H := H none none (some (.val (.int i)))
    simp only [lvs, tps, dEnd, gar, List.append_nil, Nat.add_zero, toD] at H
    have := finR_mono' (f := f) (f' := 100000) (by omega) rfl (fun e => by rw [e] at H; exact hQ H)
    rw [this]; exact H
  | .var x, p, ks, lv, tp, dp, F, r, x4, n, f, v, h, hr, hp, hk, hd, hf, H => by
    replace h : t.drop p = x ++ r := h
    have hs := start_var (q := q) (ks := ks) (lv := lv) (tp := tp) (dp := dp) (F := F) ht hp h hr v
    simp only [lvs, tps]
    rw [loop_leaf (isN_str x) n hs]
    have H := H none none (some (.val (.str x)))
    simp only [lvs, tps, dEnd, gar, List.append_nil, Nat.add_zero, toD, fmt] at H
    have := finR_mono' (f := f) (f' := 100000) (by omega) rfl (fun e => by rw [e] at H; exact hQ H)
    rw [this]; exact H
  | .neg φ, p, ks, lv, tp, dp, F, r, x4, n, f, v, h, hr, hp, hk, hd, hf, H => by
    have h' : t.drop p = tNot ++ 40 :: (fmt φ ++ 41 :: r) := by rw [h]; simp [fmt]
    simp only [dpt] at hd hf
    have hs := start_op (q := q) (ks := ks) (lv := lv) (tp := tp) (dp := dp) (F := F) ht hp h' (by simp) (by omega)
    obtain ⟨hd1, hl⟩ := drop_op h'
    have hd2 := drop_add (r := 41 :: r) hd1
    simp only [lvs, tps]
    rw [show n + (lvs φ + (tps φ + 1)) = n + (lvs φ + tps φ) + 1 by omega, loop_push _ hs]
    refine parse_claim ht hq hQ φ (p + tNot.length + 1) _ _ _ _ _ (41 :: r) _ n (f + 1) v hd1 (.inr ⟨41, r, rfl, .inr rfl⟩) hl (fok_snoc (fr := [.str tNot]) [] hk (by simp; exact good_w (by simp))) (by simp; omega) (by omega) fun x y x4' => ?_
    have e := finB (ks := ks) (F0 := F) (g := gar φ) (lv := lv + lvs φ) (tp := tp + 1 + tps φ) (dp := dEnd (max dp (ks.length + 1)) (ks ++ [F.length + 2]).length φ) (q := q) (tl := []) (x := x) (y := y) (v := toD φ) f ht (fok_snoc (fr := [.str tNot]) _ hk (by simp; exact good_w (by simp))) not1 (by simp) (by simp) hd2
    have H := H (some (.loc (F.length + 2))) (some (.val (.str [41]))) x4'
    unfold finR at H ⊢
    rw [sSeq_eq, sWhile_eq] at H ⊢
    have e0 : (F ++ [Ob.lst [.val (.str tNot)]] ++ gar φ) = F ++ .lst (List.map .val [.str tNot]) :: gar φ := by simp
    have a1 : p + tNot.length + 1 + (fmt φ).length + 1 = p + (fmt (.neg φ)).length := by simp only [fmt, List.length_append, List.length_cons, List.length_nil]; omega
    have a2 : tp + 1 + tps φ = tp + (tps φ + 1) := by omega
    have a3 : (ks ++ [F.length + 2]).length = ks.length + 1 := by simp
    rw [e0, e, a1, a2, a3]
    exact H
  | .op w φ ψ, p, ks, lv, tp, dp, F, r, x4, n, f, v, h, hr, hp, hk, hd, hf, H => by
    have h' : t.drop p = w ++ 40 :: (fmt φ ++ 44 :: (fmt ψ ++ 41 :: r)) := by rw [h]; simp [fmt]
    have hw : w ∈ tNot :: ops := List.mem_cons_of_mem _ v.1
    simp only [dpt] at hd hf
    have hs := start_op (q := q) (ks := ks) (lv := lv) (tp := tp) (dp := dp) (F := F) ht hp h' hw (by omega)
    obtain ⟨hd1, hl⟩ := drop_op h'
    have hd2 := drop_add (r := 44 :: (fmt ψ ++ 41 :: r)) hd1
    obtain ⟨_, hl2, hd3⟩ := at_drop hd2
    have hd4 := drop_add (r := 41 :: r) hd3
    have gw := good_w hw
    have gp := good_D v.2.1 (by omega)
    have a3 : (ks ++ [F.length + 2]).length = ks.length + 1 := by simp
    simp only [lvs, tps]
    rw [show n + (lvs φ + lvs ψ + (tps φ + tps ψ + 1)) = (n + (lvs ψ + tps ψ)) + (lvs φ + tps φ) + 1 by omega, loop_push _ hs]
    refine parse_claim ht hq hQ φ (p + w.length + 1) _ _ _ _ _ (44 :: (fmt ψ ++ 41 :: r)) _ (n + (lvs ψ + tps ψ)) 1 v.2.1 hd1 (.inr ⟨44, _, rfl, .inl rfl⟩) hl (fok_snoc (fr := [.str w]) [] hk (by simp; exact gw)) (by rw [a3]; omega) (by omega) fun x y x4' => ?_
    have e := finA (ks := ks) (F0 := F) (g := gar φ) (lv := lv + lvs φ) (tp := tp + 1 + tps φ) (dp := dEnd (max dp (ks.length + 1)) (ks ++ [F.length + 2]).length φ) (q := q) (tl := []) (x := x) (y := y) (v := toD φ) 0 ht (fok_snoc (fr := [.str w]) _ hk (by simp; exact gw)) (ops2 w v.1) (by simp) (by simp) hd2
    have e0 : (F ++ [Ob.lst [.val (.str w)]] ++ gar φ) = F ++ .lst (List.map .val [.str w]) :: gar φ := by simp
    have e' : finR 1 (toD φ) x y (RSt t q (p + w.length + 1 + (fmt φ).length) (ks ++ [F.length + 2]) (lv + lvs φ) (tp + 1 + tps φ) (dEnd (max dp (ks.length + 1)) (ks ++ [F.length + 2]).length φ) (F ++ [Ob.lst [.val (.str w)]] ++ gar φ)) = .ok (.val .non) (RSt t q (p + w.length + 1 + (fmt φ).length + 1) (ks ++ [F.length + 2]) (lv + lvs φ) (tp + 1 + tps φ) (dEnd (max dp (ks.length + 1)) (ks ++ [F.length + 2]).length φ) (F ++ .lst ([.str w, toD φ].map .val) :: gar φ)) := by
      unfold finR
      rw [sSeq_eq, sWhile_eq, e0, e]
      rfl
    rw [e']
    show Q (whileS _ _ _ _ _)
    refine parse_claim ht hq hQ ψ _ _ _ _ _ _ (41 :: r) _ n (f + 1) v.2.2 hd3 (.inr ⟨41, r, rfl, .inr rfl⟩) (by omega) (fok_snoc (fr := [.str w, toD φ]) _ hk (by simp; exact ⟨gw, gp⟩)) (by rw [a3]; omega) (by omega) fun x y x4' => ?_
    have e := finB (ks := ks) (F0 := F) (g := gar φ ++ gar ψ) (lv := lv + lvs φ + lvs ψ) (tp := tp + 1 + tps φ + tps ψ) (dp := dEnd (dEnd (max dp (ks.length + 1)) (ks ++ [F.length + 2]).length φ) (ks ++ [F.length + 2]).length ψ) (q := q) (tl := [toD φ]) (x := x) (y := y) (v := toD ψ) f ht (fok_snoc (fr := [.str w, toD φ]) _ hk (by simp; exact ⟨gw, gp⟩)) (ops2 w v.1) (by simp) (by simp) hd4
    have H := H (some (.loc (F.length + 2))) (some (.val (.str [41]))) x4'
    unfold finR at H ⊢
    rw [sSeq_eq, sWhile_eq] at H ⊢
    have e0 : (F ++ Ob.lst ([.str w, toD φ].map .val) :: gar φ ++ gar ψ) = F ++ .lst (List.map .val [.str w, toD φ]) :: (gar φ ++ gar ψ) := by simp
    have a1 : p + w.length + 1 + (fmt φ).length + 1 + (fmt ψ).length + 1 = p + (fmt (.op w φ ψ)).length := by simp only [fmt, List.length_append, List.length_cons, List.length_nil]; omega
    have a2 : tp + 1 + tps φ + tps ψ = tp + (tps φ + tps ψ + 1) := by omega
    have a4 : lv + lvs φ + lvs ψ = lv + (lvs φ + lvs ψ) := by omega
    rw [e0, e, a1, a2, a3, a4]
    exact H
end
end TheText

namespace TheText
open PySem L2 MK
def pyF : Fm → PyData
  | .res i => .int i
  | .var x => .str (sT x)
  | .neg p => .tuple [.str (sT tNot), pyF p]
  | .op w p q => .tuple [.str (sT w), pyF p, pyF q]
def qu (x : Tx) : Tx := 39 :: (x ++ [39])
def shT : Fm → Tx
  | .res i => dec i
  | .var x => qu x
  | .neg p => 40 :: (qu tNot ++ (44 :: 32 :: (shT p ++ [41])))
  | .op w p q => 40 :: (qu w ++ (44 :: 32 :: (shT p ++ (44 :: 32 :: (shT q ++ [41])))))
theorem repr_vars : ∀ x ∈ vars, (reprText (sT x)).cps.toList = qu x := by decide +kernel
theorem repr_ops : ∀ x ∈ tNot :: ops, (reprText (sT x)).cps.toList = qu x := by decide +kernel
theorem lit1 : ("(" : Str) = sT [40] := by decide +kernel
theorem lit2 : (", " : Str) = sT [44, 32] := by decide +kernel
theorem lit3 : ((")" : String) : Str) = sT [41] := by decide +kernel
theorem toPy_pyF : ∀ p : Fm, toPy (toD p) = some (pyF p)
  | .res _ => rfl
  | .var _ => rfl
  | .neg p => by simp [toD, toPy, toPys, toPy_pyF p, pyF]
  | .op _ p q => by simp [toD, toPy, toPys, toPy_pyF p, toPy_pyF q, pyF]
theorem shown_ok : ∀ {p : Fm}, Vd 1000 p → (pyF p).shown = sT (shT p)
  | .res i, v => by
    show Str.ofString (toString i) = sT (dec i)
    rw [sT_dec]
  | .var x, v => by
    show reprText (sT x) = sT (qu x)
    rw [← repr_vars x v, MK.sT_of]
  | .neg p, v => by
    have := shown_ok (p := p) v
    have e := repr_ops tNot (by simp)
    show ("(" : Str) ++ Str.join ", " [reprText (sT tNot), (pyF p).shown] ++ ((")" : String) : Str) = _
    rw [this, ← MK.sT_of (reprText (sT tNot)), e]
    show ("(" : Str) ++ (sT (qu tNot) ++ (", " : Str) ++ sT (shT p)) ++ ((")" : String) : Str) = _
    rw [lit1, lit2, lit3, sT_append, sT_append, sT_append, sT_append]
    simp [shT]
  | .op w p q, v => by
    have h1 := shown_ok (p := p) v.2.1
    have h2 := shown_ok (p := q) v.2.2
    have e := repr_ops w (List.mem_cons_of_mem _ v.1)
    show ("(" : Str) ++ Str.join ", " [reprText (sT w), (pyF p).shown, (pyF q).shown] ++ ((")" : String) : Str) = _
    rw [h1, h2, ← MK.sT_of (reprText (sT w)), e]
    show ("(" : Str) ++ (sT (qu w) ++ (", " : Str) ++ (sT (shT p) ++ (", " : Str) ++ sT (shT q))) ++ ((")" : String) : Str) = _
    rw [lit1, lit2, lit3, sT_append, sT_append, sT_append, sT_append, sT_append, sT_append]
    simp [shT]
theorem shT_len : ∀ {p : Fm}, Vd 1000 p → (shT p).length ≤ 8 * lvs p + 13 * tps p
  | .res i, v => by
    have := digs_len i.toNat
    simp only [shT, lvs, tps, dec_digs v.1 v.2]; omega
  | .var x, v => by have := vars_len x v; simp [shT, qu, lvs, tps]; omega
  | .neg p, v => by
    have := shT_len (p := p) v
    simp [shT, qu, lvs, tps, tNot]; omega
  | .op w p r, v => by
    have := shT_len (p := p) v.2.1
    have := shT_len (p := r) v.2.2
    have := ops_len w v.1
    simp [shT, qu, lvs, tps]; omega
theorem showable_ok : ∀ {p : Fm}, Vd 1000 p → (pyF p).showable = true
  | .res i, v => by simp only [pyF, PyData.showable]; exact decide_eq_true (log_small v.1 v.2)
  | .var x, v => by simp only [pyF, PyData.showable]
  | .neg p, v => by simp only [pyF, PyData.showable, PyData.showableAll, showable_ok (p := p) v]; rfl
  | .op _ p q, v => by simp only [pyF, PyData.showable, PyData.showableAll, showable_ok (p := p) v.2.1, showable_ok (p := q) v.2.2]; rfl
theorem hasDict_ok : ∀ (p : Fm), (pyF p).hasDict = false
  | .res i => by simp only [pyF, PyData.hasDict]
  | .var x => by simp only [pyF, PyData.hasDict]
  | .neg p => by simp only [pyF, PyData.hasDict, PyData.hasDictAll, hasDict_ok p]; rfl
  | .op _ p q => by simp only [pyF, PyData.hasDict, PyData.hasDictAll, hasDict_ok p, hasDict_ok q]; rfl
theorem depth_ok : ∀ (p : Fm), (pyF p).depth = dpt p
  | .res i => by simp only [pyF, PyData.depth, dpt]
  | .var x => by simp only [pyF, PyData.depth, dpt]
  | .neg p => by simp [pyF, PyData.depth, PyData.depthAll, depth_ok p, dpt]
  | .op _ p q => by simp [pyF, PyData.depth, PyData.depthAll, depth_ok p, depth_ok q, dpt]
theorem rooted_ok : ∀ (p : Fm), rooted (pyF p) = true
  | .res i => rfl
  | .var x => rfl
  | .neg p => rfl
  | .op _ p q => rfl
theorem repr_ok {p : Fm} (v : Vd 1000 p) (h1 : lvs p ≤ 100) (h2 : tps p ≤ 100) (h3 : dpt p ≤ 60) (S : Sto) : fRepr [.val (toD p)] S = .ok (.val (.str (shT p))) S := by
  have hl := shT_len v
  show (match toPy (toD p) with | some p => _ | none => _) = _
  rw [toPy_pyF]
  show (if _ then _ else _) = _
  rw [shown_ok v, if_pos, MK.sT_cps]
  rw [rooted_ok, showable_ok v, hasDict_ok, depth_ok, sT_length, line_is]
  simp [h3]; omega
/-! the shown text, read back -/
def isDg (c : Nat) : Bool := decide (c ∈ tDig)
def valT (x : Tx) : Nat := x.foldl (fun a c => 10 * a + (c - 48)) 0
def uns : Nat → Tx → Option (Dv × Tx)
  | 0, _ => none
  | n + 1, s => if s.headD 0 = 40 then
      (uns n (((s.drop 2).dropWhile (· != 39)).drop 3)).bind fun a => if a.2.headD 0 = 41 then some (.tup [.str ((s.drop 2).takeWhile (· != 39)), a.1], a.2.drop 1) else
        (uns n (a.2.drop 2)).bind fun b => some (.tup [.str ((s.drop 2).takeWhile (· != 39)), a.1, b.1], b.2.drop 1)
    else if s.headD 0 = 39 then some (.str ((s.drop 1).takeWhile (· != 39)), ((s.drop 1).dropWhile (· != 39)).drop 1)
    else some (.int (valT (s.takeWhile isDg)), s.dropWhile isDg)
theorem digs_val : ∀ n : Fin 1000, valT (digs n.val) = n.val ∧ (∀ c ∈ digs n.val, isDg c = true) ∧ (digs n.val).headD 0 ≠ 40 ∧ (digs n.val).headD 0 ≠ 39 ∧ digs n.val ≠ [] := by decide +kernel
theorem noq : ∀ x ∈ vars ++ (tNot :: ops), ∀ c ∈ x, (c != 39) = true := by decide
theorem tw_app {p : Nat → Bool} {x r : Tx} (h : ∀ c ∈ x, p c = true) (hr : r = [] ∨ ∃ c s, r = c :: s ∧ p c = false) : (x ++ r).takeWhile p = x ∧ (x ++ r).dropWhile p = r := by
  rw [List.takeWhile_append_of_pos h, List.dropWhile_append_of_pos h]
  rcases hr with rfl | ⟨c, s, rfl, hc⟩
  · simp
  · simp [hc]
theorem uns_ok : ∀ (n : Nat) {p : Fm} {r : Tx}, Vd 1000 p → dpt p < n → (r = [] ∨ ∃ c s, r = c :: s ∧ isDg c = false) → uns n (shT p ++ r) = some (toD p, r)
  | 0, p, r, _, h, _ => by omega
  | n + 1, .res i, r, v, h, hr => by
    obtain ⟨i, rfl⟩ : ∃ k : Nat, i = (k : Int) := ⟨i.toNat, by have := v.1; omega⟩
    have hi : i < 1000 := by have := v.2; omega
    obtain ⟨h1, h2, h3, h4, h5⟩ := digs_val ⟨i, hi⟩
    simp only at h1 h2 h3 h4 h5
    obtain ⟨t1, t2⟩ := tw_app h2 hr
    have e : shT (.res (i : Int)) = digs i := dec_digs (by omega) (by omega)
    have hh : (digs i ++ r).headD 0 = (digs i).headD 0 := by
      cases q : digs i with
      | nil => exact absurd q h5
      | cons _ _ => rfl
    rw [e]
    unfold uns
    rw [hh, if_neg h3, if_neg h4, t1, t2, h1]; rfl
  | n + 1, .var x, r, v, h, hr => by
    obtain ⟨t1, t2⟩ := tw_app (p := (· != 39)) (x := x) (r := 39 :: r) (noq x (List.mem_append_left _ v)) (.inr ⟨39, r, rfl, rfl⟩)
    have e : shT (.var x) ++ r = 39 :: (x ++ 39 :: r) := by simp [shT, qu]
    rw [e]
    unfold uns
    rw [if_neg (by simp), if_pos (by simp)]
    simp only [List.drop_succ_cons, List.drop_zero]
    rw [t1, t2]; rfl
  | n + 1, .neg p, r, v, h, hr => by
    obtain ⟨t1, t2⟩ := tw_app (p := (· != 39)) (x := tNot) (r := 39 :: 44 :: 32 :: (shT p ++ (41 :: r))) (noq tNot (by simp)) (.inr ⟨39, _, rfl, rfl⟩)
    have e : shT (.neg p) ++ r = 40 :: 39 :: (tNot ++ 39 :: 44 :: 32 :: (shT p ++ (41 :: r))) := by simp [shT, qu]
    simp only [dpt] at h
    have ih := uns_ok n (p := p) (r := 41 :: r) v (by omega) (.inr ⟨41, r, rfl, by decide⟩)
    rw [e]
    unfold uns
    rw [if_pos (by simp)]
    simp only [List.drop_succ_cons, List.drop_zero]
    rw [t1, t2]
    simp only [List.drop_succ_cons, List.drop_zero]
    rw [ih]; rfl
  | n + 1, .op w p q, r, v, h, hr => by
    obtain ⟨t1, t2⟩ := tw_app (p := (· != 39)) (x := w) (r := 39 :: 44 :: 32 :: (shT p ++ (44 :: 32 :: (shT q ++ (41 :: r))))) (noq w (List.mem_append_right _ (List.mem_cons_of_mem _ v.1))) (.inr ⟨39, _, rfl, rfl⟩)
    have e : shT (.op w p q) ++ r = 40 :: 39 :: (w ++ 39 :: 44 :: 32 :: (shT p ++ (44 :: 32 :: (shT q ++ (41 :: r))))) := by simp [shT, qu]
    simp only [dpt] at h
    have ih := uns_ok n (p := p) (r := 44 :: 32 :: (shT q ++ (41 :: r))) v.2.1 (by omega) (.inr ⟨44, _, rfl, by decide⟩)
    have ih2 := uns_ok n (p := q) (r := 41 :: r) v.2.2 (by omega) (.inr ⟨41, r, rfl, by decide⟩)
    rw [e]
    unfold uns
    rw [if_pos (by simp)]
    simp only [List.drop_succ_cons, List.drop_zero]
    rw [t1, t2]
    simp only [List.drop_succ_cons, List.drop_zero]
    rw [ih]
    simp only [Option.bind_some, List.headD_cons, List.drop_succ_cons, List.drop_zero]
    rw [ih2]; rfl
theorem shT_inj {p p' : Fm} (v : Vd 1000 p) (v' : Vd 1000 p') (h : shT p = shT p') : toD p = toD p' := by
  have a := uns_ok (dpt p + dpt p' + 1) (r := []) v (by omega) (.inl rfl)
  have b := uns_ok (dpt p + dpt p' + 1) (r := []) v' (by omega) (.inl rfl)
  rw [h, b] at a
  exact (congrArg Prod.fst (Option.some.inj a)).symm
/-! the whole reader -/
theorem isN_toD : ∀ (p : Fm) (S : Sto), fIsN false (.val (toD p)) (.val .non) S = .ok (.val (.bl false)) S
  | .res _, _ => rfl
  | .var _, _ => rfl
  | .neg _, _ => rfl
  | .op _ _ _, _ => rfl
/-- a formula within the bounds -/
structure Ok (q : Int) (p : Fm) : Prop where
  v : Vd q p
  l : lvs p ≤ 8
  t : tps p ≤ 16
  d : dpt p ≤ 12
theorem init_ok {t : Tx} {q : Int} : mkIns "FormulaReader" G_FormulaReader_init [.val (.str t), .val (.int q)] [] = .ok (.loc 0) (RSt t q 0 [] 0 0 0 []) := by
  simp only [mkIns, G_FormulaReader_init, fnS, g_FormulaReader_init, List.length_cons, List.length_nil, if_true, List.map_cons, List.map_nil, List.replicate, List.cons_append, List.nil_append]
  rw [seq_nx (ρ1 := [some (.loc 0), some (.val (.str t)), some (.val (.int q))]) (S1 := [.ins "FormulaReader" [("text", .val (.str t))]]) (by
    simp only [sFldS_eq, eVar_eq, eC_eq, eMk_eq, aNil_eq, mkLoc, line_is, List.length_nil, Nat.zero_le, if_true, List.getElem?_cons_zero, List.getElem?_cons_succ, Rz.thn_ok, Rz.bind_ok]; rfl)]
  rw [seq_nx (ρ1 := [some (.loc 0), some (.val (.str t)), some (.val (.int q))]) (S1 := [.ins "FormulaReader" [("text", .val (.str t)), ("modulus", .val (.int q))]]) (by
    simp only [sFldS_eq, eVar_eq, eC_eq, eMk_eq, aNil_eq, mkLoc, line_is, List.length_nil, Nat.zero_le, if_true, List.getElem?_cons_zero, List.getElem?_cons_succ, Rz.thn_ok, Rz.bind_ok]; rfl)]
  rw [seq_nx (ρ1 := [some (.loc 0), some (.val (.str t)), some (.val (.int q))]) (S1 := [.ins "FormulaReader" [("text", .val (.str t)), ("modulus", .val (.int q)), ("position", .val (.int 0))]]) (by
    simp only [sFldS_eq, eVar_eq, eC_eq, eMk_eq, aNil_eq, mkLoc, line_is, List.length_nil, Nat.zero_le, if_true, List.getElem?_cons_zero, List.getElem?_cons_succ, Rz.thn_ok, Rz.bind_ok]; rfl)]
  rw [seq_nx (ρ1 := [some (.loc 0), some (.val (.str t)), some (.val (.int q))]) (S1 := [.ins "FormulaReader" [("text", .val (.str t)), ("modulus", .val (.int q)), ("position", .val (.int 0)), ("stack", .loc 1)], .lst []]) (by
    simp only [sFldS_eq, eVar_eq, eC_eq, eMk_eq, aNil_eq, mkLoc, line_is, List.length_nil, Nat.zero_le, if_true, List.getElem?_cons_zero, List.getElem?_cons_succ, Rz.thn_ok, Rz.bind_ok]; rfl)]
  rw [seq_nx (ρ1 := [some (.loc 0), some (.val (.str t)), some (.val (.int q))]) (S1 := [.ins "FormulaReader" [("text", .val (.str t)), ("modulus", .val (.int q)), ("position", .val (.int 0)), ("stack", .loc 1), ("leaves", .val (.int 0))], .lst []]) (by
    simp only [sFldS_eq, eVar_eq, eC_eq, eMk_eq, aNil_eq, mkLoc, line_is, List.length_nil, Nat.zero_le, if_true, List.getElem?_cons_zero, List.getElem?_cons_succ, Rz.thn_ok, Rz.bind_ok]; rfl)]
  rw [seq_nx (ρ1 := [some (.loc 0), some (.val (.str t)), some (.val (.int q))]) (S1 := [.ins "FormulaReader" [("text", .val (.str t)), ("modulus", .val (.int q)), ("position", .val (.int 0)), ("stack", .loc 1), ("leaves", .val (.int 0)), ("tuples", .val (.int 0))], .lst []]) (by
    simp only [sFldS_eq, eVar_eq, eC_eq, eMk_eq, aNil_eq, mkLoc, line_is, List.length_nil, Nat.zero_le, if_true, List.getElem?_cons_zero, List.getElem?_cons_succ, Rz.thn_ok, Rz.bind_ok]; rfl)]
  simp only [sFldS_eq, eVar_eq, eC_eq, List.getElem?_cons_zero, List.getElem?_cons_succ, Rz.thn_ok, Rz.bind_ok]; rfl
theorem parse_ok {q : Int} {p : Fm} (hq : q ≤ 1000) (h : Ok q p) : G_parse_formula [.str (fmt p), .int q] = .ok (toD p) := by
  obtain ⟨v, hl, ht, hd⟩ := h
  have flen := fmt_len (v.mono hq)
  have ht' : (fmt p).length ≤ 16777216 := by omega
  obtain ⟨n, hn⟩ : ∃ n, n + 1 + (lvs p + tps p) = 100000 := ⟨99999 - (lvs p + tps p), by omega⟩
  have dl := dEnd_le p 0 0
  have H := parse_claim (t := fmt p) (q := q) ht' hq (Q := fun r => ∃ x4 S, r = .nx [some (.val (.str (fmt p))), some (.val (.int q)), some (.loc 0), some (.val (toD p)), x4] (RSt (fmt p) q (fmt p).length [] (lvs p) (tps p) (dEnd 0 0 p) S)) (by rintro ⟨_, _, h⟩; cases h) p 0 [] 0 0 0 [] [] none (n + 1) 1 v (by simp) (.inl rfl) (Nat.zero_le _) (by simp) (by simp; omega) (by omega) (by
      intro x y x4'
      refine ⟨x4', gar p, ?_⟩
      have e : finR 1 (toD p) x y (RSt (fmt p) q (0 + (fmt p).length) [] (0 + lvs p) (0 + tps p) (dEnd 0 ([] : List Nat).length p) ([] ++ gar p)) = .ok (.val (toD p)) (RSt (fmt p) q (fmt p).length [] (lvs p) (tps p) (dEnd 0 0 p) (gar p)) := by
        simp only [Nat.zero_add, List.length_nil, List.nil_append]
        unfold finR
        rw [seq_nx (show sWhile 1 wc_FormulaReader_finish wb_FormulaReader_finish _ _ = _ from finD 0)]
        simp only [sSeq_eq, sIf_eq, xB_eq, eBin_eq, eMk_eq, aCons_eq, aNil_eq, fld_pos, fld_text, Rz.bind_ok, fLen_str, line_is, if_pos ht', fEqq_int, beq_self_eq_true, show (true != true) = false from rfl, Rz.thn_ok, sNil_eq, RS.seq_nx, sRet_eq, eVar_eq, List.getElem?_cons_zero, List.getElem?_cons_succ, RS.fin_ret]
      rw [e]
      show whileS (n + 1) _ _ _ _ = _
      rw [whileS_succ]
      simp only [xB_eq, eBin_eq, eVar_eq, eC_eq, List.getElem?_cons_zero, List.getElem?_cons_succ, Rz.bind_ok, isN_toD, Rz.thn_ok])
  obtain ⟨x4, G, e⟩ := H
  rw [hn] at e
  simp only [G_parse_formula, fnP, fnS, g_parse_formula, List.length_cons, List.length_nil, if_true, List.map_cons, List.map_nil, List.replicate, List.cons_append, List.nil_append]
  rw [seq_nx (ρ1 := [some (.val (.str (fmt p))), some (.val (.int q)), some (.loc 0), none, none]) (S1 := RSt (fmt p) q 0 [] 0 0 0 []) (by
    simp only [sSet_eq, eMk_eq, aCons_eq, aNil_eq, eVar_eq, List.getElem?_cons_zero, List.getElem?_cons_succ, Rz.bind_ok, init_ok, Rz.thn_ok, List.set_cons_succ, List.set_cons_zero])]
  rw [seq_nx (ρ1 := [some (.val (.str (fmt p))), some (.val (.int q)), some (.loc 0), some (.val .non), none]) (S1 := RSt (fmt p) q 0 [] 0 0 0 []) (by rfl)]
  rw [seq_nx (show sWhile 100000 wc_parse_formula wb_parse_formula _ _ = _ from e)]
  have big : G_FormulaReader_is_too_large [.loc 0] (RSt (fmt p) q (fmt p).length [] (lvs p) (tps p) (dEnd 0 0 p) G) = .ok (.val (.bl false)) (RSt (fmt p) q (fmt p).length [] (lvs p) (tps p) (dEnd 0 0 p) G) := by
    have c1 : decide ((8 : Int) < (lvs p : Int)) = false := by simp; omega
    have c2 : decide ((16 : Int) < (tps p : Int)) = false := by simp; omega
    have c3 : decide ((12 : Int) < (dEnd 0 0 p : Int)) = false := by simp; omega
    simp only [G_FormulaReader_is_too_large, fnS, g_FormulaReader_is_too_large, List.length_cons, List.length_nil, if_true, List.map_cons, List.map_nil, List.replicate, List.cons_append, List.nil_append, sRet_eq, eOr_eq, eBin_eq, fld_leaves, fld_tuples, fld_depth, eC_eq, Rz.bind_ok, fInt_eq, c1, c2, c3, tru_bl, Rz.thn_ok, RS.fin_ret]
  rw [seq_nx (ρ1 := [some (.val (.str (fmt p))), some (.val (.int q)), some (.loc 0), some (.val (toD p)), x4]) (S1 := RSt (fmt p) q (fmt p).length [] (lvs p) (tps p) (dEnd 0 0 p) G) (by
    simp only [sIf_eq, xT_eq, eMeth_eq, eVar_eq, aNil_eq, List.getElem?_cons_zero, List.getElem?_cons_succ, Rz.bind_ok]
    show (((if _ then _ else _ : Rz Mv)).bind _).thn _ _ = _
    rw [if_pos rfl]
    show (((G_FormulaReader_is_too_large [.loc 0] _)).bind _).thn _ _ = _
    rw [big]
    simp only [Rz.bind_ok, tru_bl, Rz.thn_ok, sNil_eq])]
  simp only [sRet_eq, eVar_eq, List.getElem?_cons_zero, List.getElem?_cons_succ, Rz.thn_ok, RS.fin_ret, Rz.pure0]
  rfl
theorem fmt_inj {p p' : Fm} (h : Ok 1000 p) (h' : Ok 1000 p') (e : fmt p = fmt p') : toD p = toD p' := by
  have a := parse_ok (Int.le_refl 1000) h
  have b := parse_ok (Int.le_refl 1000) h'
  rw [e, b] at a
  exact (R0.ok.inj a).symm
theorem same_text {p p' : Fm} (h : Ok 1000 p) (h' : Ok 1000 p') : (shT p == shT p') = (fmt p == fmt p') := by
  rw [Bool.eq_iff_iff, beq_iff_eq, beq_iff_eq]
  constructor
  · intro e
    have e := shT_inj h.v h'.v e
    have a := format_ok 50 h.v (by have := h.l; omega) (by have := h.t; omega) (by have := h.d; omega)
    have b := format_ok 50 h'.v (by have := h'.l; omega) (by have := h'.t; omega) (by have := h'.d; omega)
    rw [e, b] at a
    exact (Dv.str.inj (R0.ok.inj a)).symm
  · intro e
    have e := fmt_inj h h' e
    have a := repr_ok h.v (by have := h.l; omega) (by have := h.t; omega) (by have := h.d; omega) []
    have b := repr_ok h'.v (by have := h'.l; omega) (by have := h'.t; omega) (by have := h'.d; omega) []
    rw [e, b] at a
    have a := (Rz.ok.inj a).1
    have a := Mv.val.inj a
    exact (Dv.str.inj a).symm
end TheText

namespace TheText
open PySem L2 MK
theorem forS_keep {chk : Sto → Prop} {t : XG} {g : XS} (I : List (Option Mv) → Prop) (S : Sto) (hc : chk S) : ∀ (ms : List Mv), (∀ m ∈ ms, ∀ ρ, I ρ → ∃ ρ', ((t m ρ S).only.seq fun ρ1 S1 => g ρ1 S1) = .nx ρ' S ∧ I ρ') → ∀ ρ, I ρ → ∃ ρ', forS chk t g ms ρ S = .nx ρ' S ∧ I ρ'
  | [], _, ρ, h => ⟨ρ, by unfold forS; rw [if_pos hc], h⟩
  | m :: ms, hs, ρ, h => by
    obtain ⟨ρ1, e, h1⟩ := hs m (by simp) ρ h
    obtain ⟨ρ2, e2, h2⟩ := forS_keep I S hc ms (fun m hm => hs m (by simp [hm])) ρ1 h1
    refine ⟨ρ2, ?_, h2⟩
    conv => lhs; unfold forS
    rw [if_pos hc]
    have q : ((t m ρ S).only.seq fun ρ1 S1 => (g ρ1 S1).turn fun ρ2 S2 => forS chk t g ms ρ2 S2) = ((t m ρ S).only.seq fun ρ1 S1 => g ρ1 S1).turn fun ρ2 S2 => forS chk t g ms ρ2 S2 := by
      revert e
      cases (t m ρ S) <;> simp [RS.only, RS.seq, RS.turn]
    rw [q, e]
    exact e2
theorem forS_cntB {t : XG} {g : XS} (N : Nat) (I : Nat → List (Option Mv) → Sto → Prop) : ∀ (ms : List Mv) (n : Nat), n + ms.length ≤ N → (∀ n, n < N → ∀ m ∈ ms, ∀ ρ S, I n ρ S → ∃ ρ' S', ((t m ρ S).only.seq fun ρ1 S1 => g ρ1 S1) = .nx ρ' S' ∧ I (n + 1) ρ' S') → ∀ ρ S, I n ρ S → ∃ ρ' S', forS always t g ms ρ S = .nx ρ' S' ∧ I (n + ms.length) ρ' S'
  | [], n, _, _, ρ, S, h => ⟨ρ, S, forS_nil .., h⟩
  | m :: ms, n, hN, hs, ρ, S, h => by
    rw [List.length_cons] at hN
    obtain ⟨ρ1, S1, e, h1⟩ := hs n (by omega) m (by simp) ρ S h
    obtain ⟨ρ2, S2, e2, h2⟩ := forS_cntB N I ms (n + 1) (by omega) (fun n hn m hm => hs n hn m (by simp [hm])) ρ1 S1 h1
    refine ⟨ρ2, S2, ?_, by rw [List.length_cons, show n + (ms.length + 1) = n + 1 + ms.length by omega]; exact h2⟩
    rw [forS_cons]
    have q : ((t m ρ S).only.seq fun ρ1 S1 => (g ρ1 S1).turn fun ρ2 S2 => forS always t g ms ρ2 S2) = ((t m ρ S).only.seq fun ρ1 S1 => g ρ1 S1).turn fun ρ2 S2 => forS always t g ms ρ2 S2 := by
      revert e
      cases (t m ρ S) <;> simp [RS.only, RS.seq, RS.turn]
    rw [q, e]
    exact e2
theorem eqv_refl : ∀ p : Fm, PyData.eqv (pyF p) (pyF p) = true
  | .res i => by simp [pyF, PyData.eqv]
  | .var x => by simp [pyF, PyData.eqv]
  | .neg p => by simp [pyF, PyData.eqv, PyData.eqvAll, eqv_refl p]
  | .op _ p q => by simp [pyF, PyData.eqv, PyData.eqvAll, eqv_refl p, eqv_refl q]
theorem shaped_ok {q : Int} {p : Fm} (v : Vd q p) (h : dpt p ≤ 60) : SeqAt.shaped (pyF p) = true := by
  obtain ⟨x, a, b, c⟩ := good_toD p v
  rw [toPy_pyF] at a
  cases a
  simp only [SeqAt.shaped, b, c, Bool.true_and, decide_eq_true_eq]
  omega
theorem ne_self {q : Int} {p : Fm} (v : Vd q p) (h : dpt p ≤ 60) (S : Sto) : fNe (.val (toD p)) (.val (toD p)) S = .ok (.val (.bl false)) S := by
  show (match eqD (toD p) (toD p) with | some b => _ | none => _) = _
  unfold eqD
  simp only [toPy_pyF, Option.bind_some, shaped_ok v h, Bool.and_self, if_true, eqv_refl]
  rfl
theorem fEqq_bl (neg a b : Bool) (S : Sto) : fEqq neg (.val (.bl a)) (.val (.bl b)) S = .ok (.val (.bl ((a == b) != neg))) S := by
  simp [fEqq, rfy, eqD, toPy, SeqAt.shaped, PyData.canLay0, PyData.depth, PyData.eqv]
theorem Ok.mono {q q' : Int} {p : Fm} (h : Ok q p) (hq : q ≤ q') : Ok q' p := ⟨h.v.mono hq, h.l, h.t, h.d⟩
theorem Ok.text {p : Fm} (h : Ok 1000 p) : G_law_text 20 [toD p] = .ok (.str (fmt p)) := text_ok 20 h.v (by have := h.l; omega) (by have := h.t; omega) (by have := h.d; omega)
theorem Ok.form {p : Fm} (h : Ok 1000 p) : G_format_formula 20 [toD p] = .ok (.str (fmt p)) := format_ok 20 h.v (by have := h.l; omega) (by have := h.t; omega) (by have := h.d; omega)
theorem Ok.rep {p : Fm} (h : Ok 1000 p) (S : Sto) : fRepr [.val (toD p)] S = .ok (.val (.str (shT p))) S := repr_ok h.v (by have := h.l; omega) (by have := h.t; omega) (by have := h.d; omega) S
theorem pen_ok (zs : List Int) : ∃ o, PenOb o ∧ G_law_pen [.val (.lst (zs.map .int))] [] = .ok (.loc 0) [o] := by
  refine ⟨_, ⟨(cut zs none (some 63)), 0, 0, rfl⟩, ?_⟩
  have e : cut ((zs.map Dv.int).map Mv.val) none (some 63) = ((cut zs none (some 63)).map Dv.int).map Mv.val := by
    simp [cut, List.map_drop, List.map_take]
  have hl : (cut zs none (some 63)).length ≤ 63 := by
    unfold cut
    rw [List.length_take]
    have : HT.sIx zs.length zs.length (some 63) ≤ 63 := by
      rw [show (63 : Int) = ((63 : Nat) : Int) from rfl, HT.sIx_nat]; omega
    omega
  have hm : ∀ S, mkLst (((cut zs none (some 63)).map Dv.int).map Mv.val) S = .ok (.val (.lst ((cut zs none (some 63)).map Dv.int))) S := by
    intro S
    unfold mkLst
    rw [vals_map]
    simp only [List.length_map]
    rw [if_pos (by rw [line_is]; omega)]
  have hs : fSl mkLst (.val (.lst (zs.map .int))) none (some 63) [] = mkLst (cut ((zs.map Dv.int).map Mv.val) none (some 63)) [] := rfl
  simp only [G_law_pen, fnS, g_law_pen, List.length_cons, List.length_nil, if_true, List.map_cons, List.map_nil, List.replicate, List.cons_append, List.nil_append, sRet_eq, eMk_eq, aCons_eq, aNil_eq, eSl_eq, xoN_eq, xoS_eq, eVar_eq, eC_eq, List.getElem?_cons_zero, Rz.bind_ok, hs, e, hm, fLstOf, seqOf_lst]
  simp [mkLoc, line_is]
def ent (p : Fm) : Mv := .val (.tup [.str (shT p), .str (fmt p)])
theorem okA {x : Tx} (h : ∀ c ∈ x, c < 1114112) : okT x = true := by
  unfold okT
  rw [List.all_eq_true]
  intro c hc
  exact decide_eq_true (h c hc)
theorem okT_app {x y : Tx} (h : okT x = true) (g : okT y = true) : okT (x ++ y) = true := by
  unfold okT at *
  rw [List.all_append, h, g]; rfl
theorem okT_cons {c : Nat} {y : Tx} (h : c < 1114112) (g : okT y = true) : okT (c :: y) = true := by
  unfold okT at *
  rw [List.all_cons, g, decide_eq_true h]; rfl
theorem ok_digs : ∀ n : Fin 1000, okT (digs n.val) = true := by decide +kernel
theorem ok_dec {i : Int} (h0 : 0 ≤ i) (h1 : i < 1000) : okT (dec i) = true := by
  rw [dec_digs h0 h1]; exact ok_digs ⟨i.toNat, by omega⟩
theorem ok_var : ∀ x ∈ vars, okT x = true := by decide
theorem ok_op : ∀ x ∈ tNot :: ops, okT x = true := by decide
theorem ok_fmt : ∀ {p : Fm}, Vd 1000 p → okT (fmt p) = true
  | .res i, v => ok_dec v.1 v.2
  | .var x, v => ok_var x v
  | .neg p, v => by
    have := ok_fmt (p := p) v
    exact okT_app (okT_app (by decide) this) (by decide)
  | .op w p q, v => okT_app (okT_app (okT_app (ok_op w (List.mem_cons_of_mem _ v.1)) (by decide)) (okT_app (okT_app (ok_fmt (p := p) v.2.1) (by decide)) (ok_fmt (p := q) v.2.2))) (by decide)
theorem ok_qu {x : Tx} (h : okT x = true) : okT (qu x) = true := okT_cons (by decide) (okT_app h (by decide))
theorem ok_shT : ∀ {p : Fm}, Vd 1000 p → okT (shT p) = true
  | .res i, v => ok_dec v.1 v.2
  | .var x, v => ok_qu (ok_var x v)
  | .neg p, v => okT_cons (by decide) (okT_app (by decide) (okT_cons (by decide) (okT_cons (by decide) (okT_app (ok_shT (p := p) v) (by decide)))))
  | .op w p q, v => okT_cons (by decide) (okT_app (ok_qu (ok_op w (List.mem_cons_of_mem _ v.1))) (okT_cons (by decide) (okT_cons (by decide) (okT_app (ok_shT (p := p) v.2.1) (okT_cons (by decide) (okT_cons (by decide) (okT_app (ok_shT (p := q) v.2.2) (by decide))))))))
theorem lets : ∀ c ∈ tLet, [c] ∈ vars ∧ c < 1114112 := by decide
theorem letter_ok {ρ : List (Option Mv)} {a b : Option Mv} {S : Sto} {c : Nat} (hc : c ∈ tLet) : (sIf ((xOr ((xB ((eBin fNe ((eMk (callP G_parse_formula) (aCons ((eBin fAdd ((eBin fAdd (eC (.str [110, 111, 116, 40])) (eVar 2))) (eC (.str [41])))) (aCons (eC (.int 5)) (aNil))))) ((eMk mkTup (aCons (eC (.str [110, 111, 116])) (aCons (eVar 2) (aNil))))))))) ((xB ((eBin fNe ((eMk (callP (G_format_formula 20)) (aCons (eVar 2) (aNil)))) (eVar 2))))))) ((sRet (eC (.bl false)))) (sNil)) (a :: b :: some (.val (.str [c])) :: ρ) S = .nx (a :: b :: some (.val (.str [c])) :: ρ) S := by
  have hv := (lets c hc).1
  have h1 : Ok 5 (.neg (.var [c])) := ⟨hv, by simp [lvs], by simp [tps], by simp [dpt]⟩
  have h2 : Ok 1000 (.var [c]) := ⟨hv, by simp [lvs], by simp [tps], by simp [dpt]⟩
  have e1 := parse_ok (by decide) h1
  have e1' : G_parse_formula [.str ([110, 111, 116, 40] ++ [c] ++ [41]), .int 5] = .ok (.tup [.str [110, 111, 116], .str [c]]) := e1
  have e2 : G_format_formula 20 [.str [c]] = .ok (.str [c]) := h2.form
  have e3 : ∀ S, fNe (.val (.tup [.str [110, 111, 116], .str [c]])) (.val (.tup [.str [110, 111, 116], .str [c]])) S = .ok (.val (.bl false)) S := ne_self h1.v (by simp [dpt])
  have e4 : ∀ S, mkTup [.val (.str [110, 111, 116]), .val (.str [c])] S = .ok (.val (.tup [.str [110, 111, 116], .str [c]])) S := by intro S; simp [mkTup, line_is]
  have oc := okT1 c (lets c hc).2
  simp only [sIf_eq, xOr_eq, xB_eq, eBin_eq, eMk_eq, aCons_eq, aNil_eq, eC_eq, eVar_eq, List.getElem?_cons_zero, List.getElem?_cons_succ, Rz.bind_ok, fAdd_str, line_is, List.length_cons, List.length_nil, List.length_append, if_pos (show 0 + 1 + 1 + 1 + 1 + (0 + 1) ≤ 16777216 by decide), if_pos (show 0 + 1 + 1 + 1 + 1 + (0 + 1) + (0 + 1) ≤ 16777216 by decide), callP2, callP1, e1', liftP_ok, e4, e3, e2, fEqq_str true _ oc oc, beq_self_eq_true, show (true != true) = false from rfl, Rz.thn_ok, sNil_eq]
/-- what holds between two turns -/
def Inv (sc le : Option Mv) (n : Nat) (ρ : List (Option Mv)) (S : Sto) : Prop := ∃ (ps : List Fm) (t q so pa : Option Mv), ρ = [sc, some (.loc 0), le, some (.loc 1), t, q, so, pa, none, none] ∧ PenAt S 0 ∧ S[1]? = some (.lst (ps.map ent)) ∧ ps.length = n ∧ ∀ p ∈ ps, Ok 1000 p
theorem source_ok {sc le l so pa x y : Option Mv} {j q : Int} {S : Sto} (hp : PenAt S 0) (h0 : 2 ≤ q) (h1 : q ≤ 1000) {ms : List Mv} (hs : S[1]? = some (.lst ms)) : ∃ p S', Ok q p ∧ PenAt S' 0 ∧ S'[1]? = some (.lst ms) ∧
    (sSet 6 ((eIf ((xB ((eBin fGt (eVar 4) (eC (.int 0)))))) ((eMk G_law_some_formula (aCons (eVar 1) (aCons (eVar 5) (aCons (eC (.int 8)) (aNil)))))) ((eMk G_law_limit_formula (aCons (eVar 1) (aCons (eVar 5) (aNil)))))))) [sc, some (.loc 0), le, l, some (.val (.int j)), some (.val (.int q)), so, pa, x, y] S = .nx [sc, some (.loc 0), le, l, some (.val (.int j)), some (.val (.int q)), some (.val (toD p)), pa, x, y] S' := by
  have h1l : 1 < S.length := by
    rcases Nat.lt_or_ge 1 S.length with q | q
    · exact q
    · rw [List.getElem?_eq_none q] at hs; cases hs
  cases hj : decide ((0 : Int) < j) with
  | true =>
    obtain ⟨p, o, S', v, l8, t11, hn, hl, _, e⟩ := some_formula_ok hp h0 h1
    have := dpt_tps p
    refine ⟨p, S', ⟨v, l8, by omega, by omega⟩, ?_, ?_, ?_⟩
    · obtain ⟨o, h, ho⟩ := hn.pen
      rw [List.getElem?_take] at h
      exact ⟨o, by simpa [show 0 < S.length by omega] using h, ho⟩
    · have h := hn.oth 1 (by decide)
      rw [List.getElem?_take, if_pos h1l, hs] at h
      exact h
    · simp only [sSet_eq, eIf_eq, xB_eq, eBin_eq, eMk_eq, aCons_eq, aNil_eq, eC_eq, eVar_eq, List.getElem?_cons_zero, List.getElem?_cons_succ, Rz.bind_ok, fInt_eq, if_true, hj, e, Rz.thn_ok, List.set_cons_succ, List.set_cons_zero]
  | false =>
    obtain ⟨p, S', v, l8, t11, d12, hn, e⟩ := limit_ok hp h0 h1
    refine ⟨p, S', ⟨v, l8, t11, d12⟩, hn.pen, (hn.oth 1 (by decide)).trans hs, ?_⟩
    simp only [sSet_eq, eIf_eq, xB_eq, eBin_eq, eMk_eq, aCons_eq, aNil_eq, eC_eq, eVar_eq, List.getElem?_cons_zero, List.getElem?_cons_succ, Rz.bind_ok, fInt_eq, if_true, hj, e, Rz.thn_ok, List.set_cons_succ, List.set_cons_zero]
noncomputable abbrev turnB : XS := ((sSeq (sSet 5 ((eMk G_law_modulus (aCons (eVar 1) (aNil)))))
    (sSeq (sSet 6 ((eIf ((xB ((eBin fGt (eVar 4) (eC (.int 0)))))) ((eMk G_law_some_formula (aCons (eVar 1) (aCons (eVar 5) (aCons (eC (.int 8)) (aNil)))))) ((eMk G_law_limit_formula (aCons (eVar 1) (aCons (eVar 5) (aNil))))))))
    (sSeq (sSet 7 ((eMk (callP (G_law_text 20)) (aCons (eVar 6) (aNil)))))
    (sSeq (sIf ((xOr ((xB ((eBin fNe ((eMk (callP (G_format_formula 20)) (aCons (eVar 6) (aNil)))) (eVar 7))))) ((xB ((eBin fNe ((eMk (kwF 1 [0] (callP (G_format_formula 20))) (aCons (eVar 6) (aNil)))) (eVar 7))))))) ((sRet (eC (.bl false)))) (sNil))
    (sSeq (sIf ((xOr ((xB ((eBin fNe ((eMk fRepr (aCons ((eMk (callP G_parse_formula) (aCons (eVar 7) (aCons (eVar 5) (aNil))))) (aNil)))) ((eMk fRepr (aCons (eVar 6) (aNil)))))))) ((xB ((eBin fNe ((eMk (kwF 2 [1, 0] (callP G_parse_formula)) (aCons (eVar 5) (aCons (eVar 7) (aNil))))) (eVar 6))))))) ((sRet (eC (.bl false)))) (sNil))
    (sExpr ((eBm fAppend isLst (eVar 3) (aCons ((eMk mkTup (aCons ((eMk fRepr (aCons (eVar 6) (aNil)))) (aCons (eVar 7) (aNil))))) (aNil)))))))))))
noncomputable abbrev cmpB : XS := ((sIf ((xB ((eBin fNe ((eBin fEq ((eBin fIx (eVar 8) (eC (.int 0)))) ((eBin fIx (eVar 9) (eC (.int 0)))))) ((eBin fEq ((eBin fIx (eVar 8) (eC (.int 1)))) ((eBin fIx (eVar 9) (eC (.int 1)))))))))) ((sRet (eC (.bl false)))) (sNil)))
theorem turn_ok {sc le : Option Mv} {n : Nat} {ρ : List (Option Mv)} {S : Sto} {j : Int} (hn : n < 1000) (hi : Inv sc le n ρ S) : ∃ ρ' S', ((tgName 4 (.val (.int j)) ρ S).only.seq fun ρ1 S1 => turnB ρ1 S1) = .nx ρ' S' ∧ Inv sc le (n + 1) ρ' S' := by
  obtain ⟨ps, t, q0, so, pa, rfl, hp, hs, hlen, hps⟩ := hi
  obtain ⟨q, S1, q2, q3, n1, e1⟩ := modulus_ok hp
  obtain ⟨p, S2, hok, hp2, hs2, e2⟩ := source_ok (sc := sc) (le := le) (l := some (.loc 1)) (j := j) (so := so) (pa := pa) (x := none) (y := none) n1.pen q2 q3 ((n1.oth 1 (by decide)).trans hs)
  have hk := hok.mono q3
  have op := ok_fmt hk.v
  have os := ok_shT hk.v
  refine ⟨[sc, some (.loc 0), le, some (.loc 1), some (.val (.int j)), some (.val (.int q)), some (.val (toD p)), some (.val (.str (fmt p))), none, none], S2.set 1 (.lst (ps.map ent ++ [ent p])), ?_, ps ++ [p], _, _, _, _, rfl, ?_, ?_, by simp [hlen], ?_⟩
  · simp only [tgName_eq, RS.only_nx, RS.seq_nx, List.set_cons_succ, List.set_cons_zero, turnB]
    rw [seq_nx (ρ1 := [sc, some (.loc 0), le, some (.loc 1), some (.val (.int j)), some (.val (.int q)), so, pa, none, none]) (S1 := S1) (by
      simp only [sSet_eq, eMk_eq, aCons_eq, aNil_eq, eVar_eq, List.getElem?_cons_zero, List.getElem?_cons_succ, Rz.bind_ok, e1, Rz.thn_ok, List.set_cons_succ, List.set_cons_zero])]
    rw [seq_nx e2]
    rw [seq_nx (ρ1 := [sc, some (.loc 0), le, some (.loc 1), some (.val (.int j)), some (.val (.int q)), some (.val (toD p)), some (.val (.str (fmt p))), none, none]) (S1 := S2) (by
      simp only [sSet_eq, eMk_eq, aCons_eq, aNil_eq, eVar_eq, List.getElem?_cons_zero, List.getElem?_cons_succ, Rz.bind_ok, callP1, hk.text, liftP_ok, Rz.thn_ok, List.set_cons_succ, List.set_cons_zero])]
    rw [seq_nx (ρ1 := [sc, some (.loc 0), le, some (.loc 1), some (.val (.int j)), some (.val (.int q)), some (.val (toD p)), some (.val (.str (fmt p))), none, none]) (S1 := S2) (by
      simp only [sIf_eq, xOr_eq, xB_eq, eBin_eq, eMk_eq, aCons_eq, aNil_eq, eVar_eq, List.getElem?_cons_zero, List.getElem?_cons_succ, Rz.bind_ok, callP1, kwF, pick, List.length_cons, List.length_nil, if_true, hk.form, liftP_ok, fEqq_str true _ op op, beq_self_eq_true, show (true != true) = false from rfl, Rz.thn_ok, sNil_eq])]
    rw [seq_nx (ρ1 := [sc, some (.loc 0), le, some (.loc 1), some (.val (.int j)), some (.val (.int q)), some (.val (toD p)), some (.val (.str (fmt p))), none, none]) (S1 := S2) (by
      simp only [sIf_eq, xOr_eq, xB_eq, eBin_eq, eMk_eq, aCons_eq, aNil_eq, eVar_eq, List.getElem?_cons_zero, List.getElem?_cons_succ, Rz.bind_ok, callP2, kwF, pick, List.length_cons, List.length_nil, if_true, parse_ok q3 hok, liftP_ok, hk.rep, fEqq_str true _ os os, ne_self hk.v (show dpt p ≤ 60 by have := hk.d; omega), beq_self_eq_true, show (true != true) = false from rfl, Rz.thn_ok, sNil_eq])]
    have hmt : mkTup [.val (.str (shT p)), .val (.str (fmt p))] S2 = .ok (ent p) S2 := by simp [mkTup, line_is, ent]
    have hap : fAppend (.loc 1) [ent p] S2 = .ok (.val .non) (S2.set 1 (.lst (ps.map ent ++ [ent p]))) := by
      unfold fAppend
      simp only [hs2]
      rw [line_is, if_pos (by rw [List.length_map]; omega)]
    have hil : isLst S2 (.loc 1) = true := by unfold isLst; simp only [hs2]
    simp only [sExpr_eq, eBm_eq, eMk_eq, aCons_eq, aNil_eq, eVar_eq, List.getElem?_cons_zero, List.getElem?_cons_succ, Rz.bind_ok, hil, if_true, hk.rep, hmt, hap, Rz.thn_ok]
  · obtain ⟨o, h, ho⟩ := hp2
    exact ⟨o, by rw [List.getElem?_set_ne (by decide)]; exact h, ho⟩
  · rw [lset hs2]; simp
  · intro p' hp'
    rcases List.mem_append.mp hp' with h | h
    · exact hps p' h
    · rw [List.mem_singleton.mp h]; exact hk
theorem cmp_ok {a b c d e f g h : Option Mv} {S : Sto} {p p' : Fm} (hp : Ok 1000 p) (hp' : Ok 1000 p') : cmpB [a, b, c, d, e, f, g, h, some (ent p), some (ent p')] S = .nx [a, b, c, d, e, f, g, h, some (ent p), some (ent p')] S := by
  have a0 : ∀ {x y : Mv}, atI [x, y] 0 = some x := rfl
  have a1 : ∀ {x y : Mv}, atI [x, y] 1 = some y := rfl
  have hb : ∀ z : Bool, (z == z) = true := by decide
  simp only [cmpB, ent, sIf_eq, xB_eq, eBin_eq, eC_eq, eVar_eq, List.getElem?_cons_zero, List.getElem?_cons_succ, Rz.bind_ok, fIx_tup, List.map_cons, List.map_nil, a0, a1, fEqq_str false _ (ok_shT hp.v) (ok_shT hp'.v), fEqq_str false _ (ok_fmt hp.v) (ok_fmt hp'.v), same_text hp hp', fEqq_bl, hb, show (true != true) = false from rfl, Rz.thn_ok, sNil_eq]
theorem law_ok (zs : List Int) : ∃ S', fnS 1 10 g_law [.val (.lst (zs.map .int))] [] = .ok (.val (.bl true)) S' := by
  obtain ⟨o, ho, ep⟩ := pen_ok zs
  simp only [fnS, g_law, List.length_cons, List.length_nil, if_true, List.map_cons, List.map_nil, List.replicate, List.cons_append, List.nil_append]
  obtain ⟨sc, hsc⟩ : ∃ sc, sc = some (Mv.val (.lst (zs.map .int))) := ⟨_, rfl⟩
  rw [seq_nx (ρ1 := [sc, some (.loc 0), none, none, none, none, none, none, none, none]) (S1 := [o]) (by
    subst hsc
    simp only [sSet_eq, eMk_eq, aCons_eq, aNil_eq, eVar_eq, List.getElem?_cons_zero, Rz.bind_ok, ep, Rz.thn_ok, List.set_cons_succ, List.set_cons_zero])]
  obtain ⟨ρ1, S1, e1, le, hρ1, hS1⟩ := forS_inv (t := tgName 2) (g := (sIf ((xOr ((xB ((eBin fNe ((eMk (callP G_parse_formula) (aCons ((eBin fAdd ((eBin fAdd (eC (.str [110, 111, 116, 40])) (eVar 2))) (eC (.str [41])))) (aCons (eC (.int 5)) (aNil))))) ((eMk mkTup (aCons (eC (.str [110, 111, 116])) (aCons (eVar 2) (aNil))))))))) ((xB ((eBin fNe ((eMk (callP (G_format_formula 20)) (aCons (eVar 2) (aNil)))) (eVar 2))))))) ((sRet (eC (.bl false)))) (sNil)))
    (fun ρ S => ∃ le, ρ = [sc, some (.loc 0), le, none, none, none, none, none, none, none] ∧ S = [o]) (tLet.map fun c => .val (.str [c])) (by
      rintro m hm ρ S ⟨le, rfl, rfl⟩
      obtain ⟨c, hc, rfl⟩ := List.mem_map.mp hm
      refine ⟨_, _, ?_, some (.val (.str [c])), rfl, rfl⟩
      simp only [tgName_eq, RS.only_nx, RS.seq_nx, List.set_cons_succ, List.set_cons_zero]
      exact letter_ok hc) [sc, some (.loc 0), none, none, none, none, none, none, none, none] [o] ⟨none, rfl, rfl⟩
  subst hρ1 hS1
  rw [seq_nx (ρ1 := [sc, some (.loc 0), le, none, none, none, none, none, none, none]) (S1 := [o]) (by
    simp only [sFor_eq, iAny_eq, eC_eq, Rz.bind_ok, Rz.thn_ok]
    exact e1)]
  rw [seq_nx (ρ1 := [sc, some (.loc 0), le, some (.loc 1), none, none, none, none, none, none]) (S1 := [o, .lst []]) (by
    simp only [sSet_eq, eMk_eq, aNil_eq, Rz.bind_ok, mkLoc, line_is]; rfl)]
  obtain ⟨ρ2, S2, e2, ps, t, q, so, pa, rfl, hp2, hs2, hlen, hps⟩ := forS_cntB (t := tgName 4) (g := turnB) 5 (Inv sc le) (rangeL 0 5) 0 (by rw [rangeL_len]; omega) (by
    intro n hn m hm ρ S hi
    unfold rangeL at hm
    obtain ⟨i, hi', rfl⟩ := List.mem_map.mp hm
    exact turn_ok (by omega) hi) [sc, some (.loc 0), le, some (.loc 1), none, none, none, none, none, none] [o, .lst []] ⟨[], none, none, none, none, rfl, ⟨o, rfl, ho⟩, rfl, rfl, by simp⟩
  rw [seq_nx (ρ1 := [sc, some (.loc 0), le, some (.loc 1), t, q, so, pa, none, none]) (S1 := S2) (by
    simp only [sFor_eq, rng5, Rz.thn_ok]; exact e2)]
  have hit : ∀ {x y : Option Mv}, iAny (eVar 3) [sc, some (.loc 0), le, some (.loc 1), t, q, so, pa, x, y] S2 = .ok (ps.map ent, fun S => S[1]? = some (.lst (ps.map ent))) S2 := by
    intro x y
    simp only [iAny_eq, eVar_eq, List.getElem?_cons_zero, List.getElem?_cons_succ, Rz.bind_ok, hs2]
  obtain ⟨ρ3, e3, x, y, rfl⟩ := forS_keep (chk := fun S => S[1]? = some (.lst (ps.map ent))) (t := tgName 8) (g := (sFor (iAny (eVar 3)) (tgName 9) cmpB)) (fun ρ => ∃ x y, ρ = [sc, some (.loc 0), le, some (.loc 1), t, q, so, pa, x, y]) S2 hs2 (ps.map ent) (by
    rintro m hm ρ ⟨x, y, rfl⟩
    obtain ⟨p, hp, rfl⟩ := List.mem_map.mp hm
    obtain ⟨ρ4, e4, y', rfl⟩ := forS_keep (chk := fun S => S[1]? = some (.lst (ps.map ent))) (t := tgName 9) (g := cmpB) (fun ρ => ∃ y, ρ = [sc, some (.loc 0), le, some (.loc 1), t, q, so, pa, some (ent p), y]) S2 hs2 (ps.map ent) (by
      rintro m' hm' ρ ⟨y, rfl⟩
      obtain ⟨p', hp', rfl⟩ := List.mem_map.mp hm'
      refine ⟨_, ?_, some (ent p'), rfl⟩
      simp only [tgName_eq, RS.only_nx, RS.seq_nx, List.set_cons_succ, List.set_cons_zero]
      exact cmp_ok (hps p hp) (hps p' hp')) [sc, some (.loc 0), le, some (.loc 1), t, q, so, pa, some (ent p), y] ⟨y, rfl⟩
    refine ⟨_, ?_, some (ent p), y', rfl⟩
    simp only [tgName_eq, RS.only_nx, RS.seq_nx, List.set_cons_succ, List.set_cons_zero, sFor_eq, hit, Rz.thn_ok]
    exact e4) [sc, some (.loc 0), le, some (.loc 1), t, q, so, pa, none, none] ⟨none, none, rfl⟩
  rw [seq_nx (ρ1 := [sc, some (.loc 0), le, some (.loc 1), t, q, so, pa, x, y]) (S1 := S2) (by
    simp only [sFor_eq, hit, Rz.thn_ok]; exact e3)]
  exact ⟨S2, rfl⟩
end TheText

section
open PySem PySem.W PyProof.Rows
set_option maxHeartbeats 0 in
theorem PySem.Challenge.cw_maskedlist_k70_formulas_as_text_holds : PySem.Challenge.rw_maskedlist_k70_formulas_as_text.Holds :=
  head (by
  k_fill
  refine MK.walk_top (l := PySem.Challenge.rw_maskedlist_k70_formulas_as_text) (n := 63) (x := "script") (G := MK.fnS 1 10 TheText.g_law) rfl (by decide) rfl (fun w h Y => PySem.W.kIn_of Y) ?F ?law
-- printed by gen.py: the head's facts
  case F =>
    intro w mg fa h KX G hmg
    refine' (have b_int := MK.mk_none (x := "int") KX G ?a; ?nx3); (case a => k_is)
    refine' (have b_isinstance := MK.mk_none (x := "isinstance") KX G ?a; ?nx4); (case a => k_is)
    refine' (have b_len := MK.mk_none (x := "len") KX G ?a; ?nx5); (case a => k_is)
    refine' (have b_list := MK.mk_none (x := "list") KX G ?a; ?nx6); (case a => k_is)
    refine' (have b_max := MK.mk_none (x := "max") KX G ?a; ?nx7); (case a => k_is)
    refine' (have b_range := MK.mk_none (x := "range") KX G ?a; ?nx8); (case a => k_is)
    refine' (have b_repr := MK.mk_none (x := "repr") KX G ?a; ?nx9); (case a => k_is)
    refine' (have b_str := MK.mk_none (x := "str") KX G ?a; ?nx10); (case a => k_is)
    refine' (have b_tuple := MK.mk_none (x := "tuple") KX G ?a; ?nx11); (case a => k_is)
    refine' (have c_DIGITS := MK.mk_str (x := "DIGITS") (z := [48, 49, 50, 51, 52, 53, 54, 55, 56, 57]) KX G ?a ?e; ?nx12); (case a => k_is); (case e => decide +kernel)
    refine' (have c_LETTERS := MK.mk_str (x := "LETTERS") (z := [97, 98, 99, 100, 101, 102, 103, 104, 105, 106, 107, 108, 109, 110, 111, 112, 113, 114, 115, 116, 117, 118, 119, 120, 121, 122]) KX G ?a ?e; ?nx13); (case a => k_is); (case e => decide +kernel)
    refine' (have c_MAX_DEPTH := MK.mk_int (x := "MAX_DEPTH") (i := 12) KX G ?a; ?nx14); (case a => k_is)
    refine' (have c_MAX_LEAVES := MK.mk_int (x := "MAX_LEAVES") (i := 8) KX G ?a; ?nx15); (case a => k_is)
    refine' (have c_MAX_LETTERS := MK.mk_int (x := "MAX_LETTERS") (i := 6) KX G ?a; ?nx16); (case a => k_is)
    refine' (have c_MAX_TUPLES := MK.mk_int (x := "MAX_TUPLES") (i := 16) KX G ?a; ?nx17); (case a => k_is)
    refine' (have c_OPERANDS := MK.mk_kd (w := w) (x := "OPERANDS") (kvs := TheText.kd_OPERANDS) KX G ?a ?l ?lit ?low ?p; ?nx18); (case a => k_is); (case l => k_is); (case lit => repeat' first | exact trivial | refine ⟨⟨_, _, rfl, rfl⟩, ?_⟩); (case low => decide +kernel); (case p => repeat' first | exact Paired.nil | refine Paired.cons ⟨_, _, congrArg (fun z => Value.str z _) (show _ = MK.sT _ by decide +kernel), rfl⟩ ?_)
    refine' (have k_FormulaReader := MK.mk_cls (c := "FormulaReader") (fld := ["text", "modulus", "position", "stack", "leaves", "tuples", "depth"]) KX G ?aC ?pg ?hd ?po ?sa ?n; ?nx19); (case aC => k_is); (case pg => k_is); (case hd => k_is); (case po => k_is); (case sa => k_is); (case n => refine' ⟨?n0, ?n1, ?n2, ?n3, ?n4, ?n5, ?n6, trivial⟩; (case n0 => k_is); (case n1 => k_is); (case n2 => k_is); (case n3 => k_is); (case n4 => k_is); (case n5 => k_is); (case n6 => k_is))
    refine' (have d_format_formula := MK.mk_defkw (x := "format_formula") (st := (TheText.top 11)) (ps := ["formula"]) (ks := ["formula"]) (ix := [0]) KX G ?a ?l ?c ?k ?b ?bk; ?nx20); (case a => k_is); (case l => k_is); (case c => k_is); (case k => k_is); (case b => exact fun _ _ _ _ _ _ us hl => match us, hl with | [_], _ => rfl); (case bk => exact fun _ _ _ _ _ _ us hl => match us, hl with | [_], _ => rfl)
    refine' (have d_read_residue := MK.mk_def (x := "read_residue") (st := (TheText.top 12)) (ps := ["text", "start", "modulus"]) KX G ?a ?l ?c ?k ?b; ?nx21); (case a => k_is); (case l => k_is); (case c => k_is); (case k => k_is); (case b => exact fun _ _ _ _ _ _ us hl => match us, hl with | [_, _, _], _ => rfl)
    refine' (have d_FormulaReader_init := MK.mk_init (c := "FormulaReader") (qual := "FormulaReader.__init__") (st := (L2.inClass (TheText.top 13) 0)) (ps := ["self", "text", "modulus"]) KX G ?aC ?mk ?kc ?a ?i ?l ?c ?k ?b; ?nx22); (case aC => k_is); (case mk => k_is); (case kc => k_is); (case a => k_is); (case i => k_is); (case l => k_is); (case c => k_is); (case k => k_is); (case b => exact fun _ _ _ _ _ _ us hl => match us, hl with | [_, _, _], _ => rfl)
    refine' (have d_FormulaReader_read_word := MK.mk_meth (c := "FormulaReader") (m := "read_word") (qual := "FormulaReader.read_word") (st := (L2.inClass (TheText.top 13) 1)) (ps := ["self"]) KX G ?aC ?pg ?hd ?po ?sa ?a ?i ?l ?c ?k ?b; ?nx23); (case aC => k_is); (case pg => k_is); (case hd => k_is); (case po => k_is); (case sa => k_is); (case a => k_is); (case i => k_is); (case l => k_is); (case c => k_is); (case k => k_is); (case b => exact fun _ _ _ _ _ _ us hl => match us, hl with | [_], _ => rfl)
    refine' (have d_FormulaReader_read_start := MK.mk_meth (c := "FormulaReader") (m := "read_start") (qual := "FormulaReader.read_start") (st := (L2.inClass (TheText.top 13) 2)) (ps := ["self"]) KX G ?aC ?pg ?hd ?po ?sa ?a ?i ?l ?c ?k ?b; ?nx24); (case aC => k_is); (case pg => k_is); (case hd => k_is); (case po => k_is); (case sa => k_is); (case a => k_is); (case i => k_is); (case l => k_is); (case c => k_is); (case k => k_is); (case b => exact fun _ _ _ _ _ _ us hl => match us, hl with | [_], _ => rfl)
    refine' (have d_FormulaReader_finish := MK.mk_meth (c := "FormulaReader") (m := "finish") (qual := "FormulaReader.finish") (st := (L2.inClass (TheText.top 13) 3)) (ps := ["self", "value"]) KX G ?aC ?pg ?hd ?po ?sa ?a ?i ?l ?c ?k ?b; ?nx25); (case aC => k_is); (case pg => k_is); (case hd => k_is); (case po => k_is); (case sa => k_is); (case a => k_is); (case i => k_is); (case l => k_is); (case c => k_is); (case k => k_is); (case b => exact fun _ _ _ _ _ _ us hl => match us, hl with | [_, _], _ => rfl)
    refine' (have d_FormulaReader_is_too_large := MK.mk_meth (c := "FormulaReader") (m := "is_too_large") (qual := "FormulaReader.is_too_large") (st := (L2.inClass (TheText.top 13) 4)) (ps := ["self"]) KX G ?aC ?pg ?hd ?po ?sa ?a ?i ?l ?c ?k ?b; ?nx26); (case aC => k_is); (case pg => k_is); (case hd => k_is); (case po => k_is); (case sa => k_is); (case a => k_is); (case i => k_is); (case l => k_is); (case c => k_is); (case k => k_is); (case b => exact fun _ _ _ _ _ _ us hl => match us, hl with | [_], _ => rfl)
    refine' (have d_parse_formula := MK.mk_defkw (x := "parse_formula") (st := (TheText.top 14)) (ps := ["text", "modulus"]) (ks := ["modulus", "text"]) (ix := [1, 0]) KX G ?a ?l ?c ?k ?b ?bk; ?nx27); (case a => k_is); (case l => k_is); (case c => k_is); (case k => k_is); (case b => exact fun _ _ _ _ _ _ us hl => match us, hl with | [_, _], _ => rfl); (case bk => exact fun _ _ _ _ _ _ us hl => match us, hl with | [_, _], _ => rfl)
    refine' (have d_law_pen := MK.mk_def (x := "_law_pen") (st := (TheText.top 16)) (ps := ["script"]) KX G ?a ?l ?c ?k ?b; ?nx28); (case a => k_is); (case l => k_is); (case c => k_is); (case k => k_is); (case b => exact fun _ _ _ _ _ _ us hl => match us, hl with | [_], _ => rfl)
    refine' (have d_law_fresh := MK.mk_def (x := "_law_fresh") (st := (TheText.top 17)) (ps := ["pen"]) KX G ?a ?l ?c ?k ?b; ?nx29); (case a => k_is); (case l => k_is); (case c => k_is); (case k => k_is); (case b => exact fun _ _ _ _ _ _ us hl => match us, hl with | [_], _ => rfl)
    refine' (have d_law_draw := MK.mk_def (x := "_law_draw") (st := (TheText.top 18)) (ps := ["pen", "many"]) KX G ?a ?l ?c ?k ?b; ?nx30); (case a => k_is); (case l => k_is); (case c => k_is); (case k => k_is); (case b => exact fun _ _ _ _ _ _ us hl => match us, hl with | [_, _], _ => rfl)
    refine' (have d_law_modulus := MK.mk_def (x := "_law_modulus") (st := (TheText.top 19)) (ps := ["pen"]) KX G ?a ?l ?c ?k ?b; ?nx31); (case a => k_is); (case l => k_is); (case c => k_is); (case k => k_is); (case b => exact fun _ _ _ _ _ _ us hl => match us, hl with | [_], _ => rfl)
    refine' (have d_law_leaf := MK.mk_def (x := "_law_leaf") (st := (TheText.top 20)) (ps := ["pen", "q"]) KX G ?a ?l ?c ?k ?b; ?nx32); (case a => k_is); (case l => k_is); (case c => k_is); (case k => k_is); (case b => exact fun _ _ _ _ _ _ us hl => match us, hl with | [_, _], _ => rfl)
    refine' (have d_law_formula := MK.mk_def (x := "_law_formula") (st := (TheText.top 21)) (ps := ["pen", "q", "leaves", "nots"]) KX G ?a ?l ?c ?k ?b; ?nx33); (case a => k_is); (case l => k_is); (case c => k_is); (case k => k_is); (case b => exact fun _ _ _ _ _ _ us hl => match us, hl with | [_, _, _, _], _ => rfl)
    refine' (have d_law_some_formula := MK.mk_def (x := "_law_some_formula") (st := (TheText.top 22)) (ps := ["pen", "q", "leaves"]) KX G ?a ?l ?c ?k ?b; ?nx34); (case a => k_is); (case l => k_is); (case c => k_is); (case k => k_is); (case b => exact fun _ _ _ _ _ _ us hl => match us, hl with | [_, _, _], _ => rfl)
    refine' (have d_law_text := MK.mk_def (x := "_law_text") (st := (TheText.top 23)) (ps := ["source"]) KX G ?a ?l ?c ?k ?b; ?nx35); (case a => k_is); (case l => k_is); (case c => k_is); (case k => k_is); (case b => exact fun _ _ _ _ _ _ us hl => match us, hl with | [_], _ => rfl)
    refine' (have d_law_limit_formula := MK.mk_def (x := "_law_limit_formula") (st := (TheText.top 24)) (ps := ["pen", "q"]) KX G ?a ?l ?c ?k ?b; ?nx36); (case a => k_is); (case l => k_is); (case c => k_is); (case k => k_is); (case b => exact fun _ _ _ _ _ _ us hl => match us, hl with | [_, _], _ => rfl)
    refine' (have law_at := MK.mk_law (x := "law") (st := (TheText.top 25)) (arg := "script") KX G hmg ?a ?l ?c ?k ?b; ?nx37); (case a => k_is); (case l => k_is); (case c => k_is); (case k => k_is); (case b => exact fun _ _ _ _ _ _ _ => rfl)
    obtain ⟨fd, Fl, hbind⟩ := law_at
    exact ⟨fd, hbind, fun base _ _ => TheText.all_ok Fl ⟨b_int, b_isinstance, b_len, b_list, b_max, b_range, b_repr, b_str, b_tuple, c_DIGITS, c_LETTERS, c_MAX_DEPTH, c_MAX_LEAVES, c_MAX_LETTERS, c_MAX_TUPLES, c_OPERANDS, k_FormulaReader, d_format_formula, d_read_residue, d_FormulaReader_init, d_FormulaReader_read_word, d_FormulaReader_read_start, d_FormulaReader_finish, d_FormulaReader_is_too_large, d_parse_formula, d_law_pen, d_law_fresh, d_law_draw, d_law_modulus, d_law_leaf, d_law_formula, d_law_some_formula, d_law_text, d_law_limit_formula⟩⟩
  case law => exact fun ns _ => TheText.law_ok ns)
end
